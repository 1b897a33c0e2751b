import PyProof.Rows.All
import PyVabita
import Wide.All
import OpenK.AllK
import Wide.FinOn
import PyProof.EqAt
import PyProof.EqKinds
import PyProof.TupleCall
import KE.KRevSl
import Open.SpecLaws
import KE.OsGo
import HandS.ForSpec
import KE.KDictZip
import KE.KItemsList
import HandS.Iter
import KE.SortKeyHeap
import KE.SortData
import HandS.Lambda
import HandS.SortKw
import HandS.SetFor
import HandS.Strs
import HandS.SortInts
import KE.GoesRaise
import HandS.Comp
import HandS.ExcCtx
import HandS.Dict
import HandS.ForMost
import HandS.Flow
import HandS.Walk
import HandS.RaiseOp
import HandS.Text
import KE.IntTextLaws
import HandS.ExcInit
import HandS.ExcField
import HandS.ExcInitHot
import HandS.SuiteRaise
import HandS.Steps
import HandS.EndTab
import HandS.Spec
import KE.KNest
import PySem.Challenge.RW_momentsets_s01_answers
/-! text MsA -/
section
/-! Mathematics of bounds over Int: membership, uniqueness, the normal form. -/
namespace Ms
def hasI (s : List Int) (t : Int) : Bool := (s.filter fun b => decide (b ≤ t)).length % 2 == 1
def endI (s : List Int) : Bool := s.length % 2 == 1
abbrev IncI (s : List Int) : Prop := s.Pairwise (· < ·)
abbrev IncN (s : List Nat) : Prop := s.Pairwise (· < ·)
abbrev up (s : List Nat) : List Int := s.map fun n : Nat => (n : Int)

theorem par_succ (n : Nat) : ((n + 1) % 2 == 1) = !(n % 2 == 1) := by
  rcases Nat.mod_two_eq_zero_or_one n with h | h
  · have : (n + 1) % 2 = 1 := by omega
    simp [h, this]
  · have : (n + 1) % 2 = 0 := by omega
    simp [h, this]
theorem hasI_nil (t : Int) : hasI [] t = false := rfl
theorem hasI_cons (a : Int) (r : List Int) (t : Int) : hasI (a :: r) t = if a ≤ t then !hasI r t else hasI r t := by
  unfold hasI
  by_cases h : a ≤ t
  · rw [if_pos h, List.filter_cons_of_pos (by simpa using h), List.length_cons, par_succ]
  · rw [if_neg h, List.filter_cons_of_neg (by simpa using h)]
theorem hasI_out {s : List Int} {t : Int} (h : ∀ b ∈ s, t < b) : hasI s t = false := by
  induction s with
  | nil => rfl
  | cons a r ih =>
    rw [hasI_cons, if_neg (by have := h a (by simp); omega)]
    exact ih fun b hb => h b (by simp [hb])
theorem hasI_all {s : List Int} {t : Int} (h : ∀ b ∈ s, b ≤ t) : hasI s t = endI s := by
  unfold hasI endI
  rw [List.filter_eq_self.mpr (by simpa using h)]
theorem hasI_append (s r : List Int) (t : Int) : hasI (s ++ r) t = (hasI s t != hasI r t) := by
  induction s with
  | nil => simp [hasI_nil]
  | cons a s ih =>
    rw [List.cons_append, hasI_cons, hasI_cons, ih]
    split <;> cases hasI s t <;> cases hasI r t <;> rfl
theorem hasI_same {s : List Int} {t u : Int} (h : ∀ b ∈ s, b ≤ t ↔ b ≤ u) : hasI s t = hasI s u := by
  unfold hasI
  rw [List.filter_congr (q := fun b => decide (b ≤ u)) (fun b hb => by rw [decide_eq_decide]; exact h b hb)]

theorem uniq : ∀ {s r : List Int}, IncI s → IncI r → (∀ t, hasI s t = hasI r t) → s = r
  | [], [], _, _, _ => rfl
  | [], b :: r, _, hr, h => by
    have h1 := h b
    rw [hasI_nil, hasI_cons, if_pos (Int.le_refl b), hasI_out (fun _ hc => List.rel_of_pairwise_cons hr hc)] at h1
    cases h1
  | a :: s, [], hs, _, h => by
    have h1 := h a
    rw [hasI_nil, hasI_cons, if_pos (Int.le_refl a), hasI_out (fun _ hc => List.rel_of_pairwise_cons hs hc)] at h1
    cases h1
  | a :: s, b :: r, hs, hr, h => by
    have ha := fun c hc => List.rel_of_pairwise_cons hs (a' := c) hc
    have hb := fun c hc => List.rel_of_pairwise_cons hr (a' := c) hc
    have eab : a = b := by
      rcases Int.lt_trichotomy a b with l | e | g
      · have h1 := h a
        rw [hasI_cons, if_pos (Int.le_refl a), hasI_out ha, hasI_cons, if_neg (by omega), hasI_out (fun c hc => by have := hb c hc; omega)] at h1
        cases h1
      · exact e
      · have h1 := h b
        rw [hasI_cons, if_neg (by omega), hasI_cons, if_pos (Int.le_refl b), hasI_out hb, hasI_out (fun c hc => by have := ha c hc; omega)] at h1
        cases h1
    subst eab
    have : s = r := uniq hs.of_cons hr.of_cons fun t => by
      have h1 := h t
      rw [hasI_cons, hasI_cons] at h1
      by_cases ht : a ≤ t
      · rw [if_pos ht, if_pos ht] at h1
        simpa using h1
      · rw [hasI_out (fun c hc => by have := ha c hc; omega), hasI_out (fun c hc => by have := hb c hc; omega)]
    rw [this]

/-! ### the specification's side -/
open Vabita
theorem has_cast (s : List Nat) (t : Nat) : hasI (up s) t = has s t := by
  unfold hasI has
  have e : ∀ l : List Nat, ((up l).filter fun b => decide (b ≤ (t : Int))).length = (l.filter fun b => decide (b ≤ t)).length := by
    intro l
    induction l with
    | nil => rfl
    | cons a r ih =>
      rw [show up (a :: r) = (a : Int) :: up r from rfl]
      by_cases h : a ≤ t
      · rw [List.filter_cons_of_pos (by simpa using h), List.filter_cons_of_pos (by simpa using h), List.length_cons, List.length_cons, ih]
      · rw [List.filter_cons_of_neg (by simpa using h), List.filter_cons_of_neg (by simpa using h), ih]
  rw [e]
theorem end_cast (s : List Nat) : endI (up s) = endless s := by
  unfold endI endless
  rw [List.length_map]
theorem inc_cast {s : List Nat} (h : IncN s) : IncI (up s) := by
  unfold IncI up
  rw [List.pairwise_map]
  exact h.imp fun h => by omega
theorem hasI_neg {s : List Nat} {t : Int} (h : t < 0) : hasI (up s) t = false :=
  hasI_out fun b hb => by
    obtain ⟨n, _, rfl⟩ := List.mem_map.mp hb
    omega
theorem mem_into (x y : Nat) : ∀ l : List Nat, y ∈ into x l ↔ y = x ∨ y ∈ l
  | [] => by simp [into]
  | z :: r => by
    unfold into
    split
    · simp
    · split
      · rename_i h; subst h; simp
      · simp only [List.mem_cons, mem_into x y r]; constructor <;> (intro h; rcases h with h | h | h <;> simp [h])
theorem inc_into (x : Nat) : ∀ {l : List Nat}, IncN l → IncN (into x l)
  | [], _ => by simp [into]
  | z :: r, h => by
    unfold into
    split
    · rename_i hx
      refine List.Pairwise.cons (fun y hy => ?_) h
      rcases List.mem_cons.mp hy with rfl | hy
      · exact hx
      · exact Nat.lt_trans hx (List.rel_of_pairwise_cons h hy)
    · split
      · exact h
      · refine List.Pairwise.cons (fun y hy => ?_) (inc_into x h.of_cons)
        rcases (mem_into x y r).mp hy with rfl | hy
        · omega
        · exact List.rel_of_pairwise_cons h hy
theorem mem_sorted (x : Nat) (l : List Nat) : x ∈ sorted l ↔ x ∈ l := by
  unfold sorted
  induction l with
  | nil => simp
  | cons a r ih => rw [List.foldr_cons, mem_into, ih, List.mem_cons]
theorem inc_sorted (l : List Nat) : IncN (sorted l) := by
  unfold sorted
  induction l with
  | nil => simp
  | cons a r ih => rw [List.foldr_cons]; exact inc_into a ih
theorem inc_normal (p : Nat → Bool) (l : List Nat) : IncN (normal p l) := (inc_sorted l).filter _
theorem has_step {s : List Nat} (h : IncN s) (t : Nat) : has s (t + 1) = (has s t != decide ((t + 1) ∈ s)) := by
  induction s with
  | nil => rfl
  | cons a r ih =>
    have ih := ih h.of_cons
    have hr : ∀ b ∈ r, a < b := fun b hb => List.rel_of_pairwise_cons h hb
    have c : ∀ u, has (a :: r) u = if a ≤ u then !has r u else has r u := fun u => by
      rw [← has_cast, ← has_cast]
      show hasI ((a : Int) :: up r) u = _
      rw [hasI_cons]
      by_cases h : a ≤ u
      · rw [if_pos h, if_pos (by omega)]
      · rw [if_neg h, if_neg (by omega)]
    rw [c, c, ih]
    by_cases h1 : a ≤ t
    · rw [if_pos (by omega), if_pos h1]
      have : decide (t + 1 ∈ a :: r) = decide (t + 1 ∈ r) := by
        rw [decide_eq_decide, List.mem_cons]
        constructor
        · rintro (e | e)
          · omega
          · exact e
        · exact .inr
      rw [this]
      cases has r t <;> cases decide (t + 1 ∈ r) <;> rfl
    · rw [if_neg h1]
      by_cases h2 : a = t + 1
      · have n : t + 1 ∉ r := fun z => by have := hr _ z; omega
        have hr0 : has r t = false := by
          rw [← has_cast]
          exact hasI_out fun b hb => by
            obtain ⟨m, hm, rfl⟩ := List.mem_map.mp hb
            have := hr m hm
            omega
        rw [if_pos (by omega), decide_eq_false n, decide_eq_true (by simp [h2]), hr0]
        rfl
      · have : decide (t + 1 ∈ a :: r) = decide (t + 1 ∈ r) := by
          rw [decide_eq_decide, List.mem_cons]
          constructor
          · rintro (e | e)
            · omega
            · exact e
          · exact .inr
        rw [if_neg (by omega), this]
theorem has_zero {s : List Nat} (h : IncN s) : has s 0 = decide (0 ∈ s) := by
  cases s with
  | nil => rfl
  | cons a r =>
    have hr : ∀ b ∈ r, a < b := fun b hb => List.rel_of_pairwise_cons h hb
    rw [← has_cast]
    show hasI ((a : Int) :: up r) (0 : Nat) = _
    rw [hasI_cons, hasI_out (s := up r) (fun b hb => by
      obtain ⟨m, hm, rfl⟩ := List.mem_map.mp hb
      have := hr m hm
      omega)]
    by_cases e : a = 0
    · subst e; simp
    · rw [if_neg (by omega)]
      symm
      rw [decide_eq_false_iff_not, List.mem_cons]
      rintro (z | z)
      · omega
      · have := hr _ z; omega
theorem normal_has {p : Nat → Bool} {l : List Nat} (h : ∀ b, changes p b = true → b ∈ l) (t : Nat) : has (normal p l) t = p t := by
  have hm : ∀ b, b ∈ normal p l ↔ changes p b = true := fun b => by
    unfold normal
    rw [List.mem_filter, mem_sorted]
    exact ⟨fun x => x.2, fun x => ⟨h b x, x⟩⟩
  induction t with
  | zero =>
    rw [has_zero (inc_normal p l)]
    rw [show decide (0 ∈ normal p l) = changes p 0 from by rw [Bool.eq_iff_iff, decide_eq_true_iff, hm]]
    rfl
  | succ t ih =>
    rw [has_step (inc_normal p l), ih, show decide (t + 1 ∈ normal p l) = changes p (t + 1) from by rw [Bool.eq_iff_iff, decide_eq_true_iff, hm]]
    show (p t != (p (t + 1) != p t)) = p (t + 1)
    cases p t <;> cases p (t + 1) <;> rfl
/-- a list of whole numbers that is the normal form's -/
theorem normal_is {p : Nat → Bool} {l : List Nat} {s : List Int} (h : ∀ b, changes p b = true → b ∈ l) (hs : IncI s) (h0 : ∀ b ∈ s, 0 ≤ b) (hh : ∀ t : Nat, hasI s t = p t) : s = up (normal p l) := by
  refine uniq hs (inc_cast (inc_normal p l)) fun t => ?_
  by_cases ht : t < 0
  · rw [hasI_neg ht, hasI_out (fun b hb => by have := h0 b hb; omega)]
  · obtain ⟨n, rfl⟩ := Int.eq_ofNat_of_zero_le (by omega : 0 ≤ t)
    rw [hh, has_cast, normal_has h]
end Ms
end

/-! text MsB -/
section
/-! Mirror: combined, joined, bounds_of. -/
namespace Ms
open Vabita
/-! ### combined -/
def combStep (g : Int → Bool) (f : List Int) (m : Int) : List Int := if (g m != endI f) = true then f ++ [m] else f
def combOf (g : Int → Bool) (marks : List Int) : List Int := marks.foldl (combStep g) []
def ConstOff (g : Int → Bool) (M : List Int) : Prop := ∀ t u, t ≤ u → (∀ m ∈ M, ¬ (t < m ∧ m ≤ u)) → g t = g u
theorem endI_snoc (f : List Int) (m : Int) : endI (f ++ [m]) = !endI f := by
  unfold endI
  rw [List.length_append, List.length_singleton, par_succ]
theorem comb_fold {g : Int → Bool} {M : List Int} (hg : ConstOff g M) : ∀ (marks f : List Int), IncI marks → (∀ m ∈ M, m ∈ marks ∨ ∀ n ∈ marks, m < n) → (∀ x ∈ f, ∀ m ∈ marks, x < m) → IncI f →
    (∀ t, (∀ m ∈ marks, t < m) → hasI f t = g t) → IncI (marks.foldl (combStep g) f) ∧ ∀ t, hasI (marks.foldl (combStep g) f) t = g t
  | [], f, _, _, _, hf, h => ⟨hf, fun t => h t (by simp)⟩
  | m :: rest, f, hm, hM, hlt, hf, h => by
    rw [List.foldl_cons]
    have hr : ∀ n ∈ rest, m < n := fun n hn => List.rel_of_pairwise_cons hm hn
    have fm : ∀ x ∈ f, x < m := fun x hx => hlt x hx m (by simp)
    have cmem : ∀ x ∈ combStep g f m, x ∈ f ∨ x = m := fun x hx => by
      unfold combStep at hx
      split at hx
      · simpa using hx
      · exact .inl hx
    refine comb_fold hg rest (combStep g f m) hm.of_cons (fun x hx => ?_) (fun x hx n hn => ?_) ?_ (fun t ht => ?_)
    · rcases hM x hx with h1 | h1
      · rcases List.mem_cons.mp h1 with rfl | h1
        · exact .inr hr
        · exact .inl h1
      · exact .inr fun n hn => h1 n (by simp [hn])
    · rcases cmem x hx with z | rfl
      · exact hlt x z n (by simp [hn])
      · exact hr n hn
    · unfold combStep
      split
      · refine List.pairwise_append.mpr ⟨hf, by simp, fun a ha b hb => ?_⟩
        rw [List.mem_singleton.mp hb]
        exact fm a ha
      · exact hf
    · by_cases htm : t < m
      · have e1 : hasI (combStep g f m) t = hasI f t := by
          unfold combStep
          split
          · rw [hasI_append, hasI_cons, if_neg (by omega), hasI_nil]
            simp
          · rfl
        rw [e1]
        refine h t fun n hn => ?_
        rcases List.mem_cons.mp hn with rfl | hn
        · exact htm
        · exact Int.lt_trans htm (hr n hn)
      · have e1 : g m = g t := hg m t (by omega) fun x hx z => by
          rcases hM x hx with h1 | h1
          · rcases List.mem_cons.mp h1 with rfl | h1
            · omega
            · have := ht x h1; omega
          · have := h1 m (by simp); omega
        have e2 : hasI (combStep g f m) t = endI (combStep g f m) := hasI_all fun x hx => by
          rcases cmem x hx with z | rfl
          · have := fm x z; omega
          · omega
        rw [e2, ← e1]
        unfold combStep
        split
        · rename_i c
          rw [endI_snoc]
          revert c
          cases g m <;> cases endI f <;> simp
        · rename_i c
          revert c
          cases g m <;> cases endI f <;> simp
theorem comb_ok {g : Int → Bool} {M marks : List Int} (hg : ConstOff g M) (hm : IncI marks) (hM : ∀ m ∈ M, m ∈ marks) (h0 : ∀ t, (∀ m ∈ marks, t < m) → g t = false) :
    IncI (combOf g marks) ∧ (∀ t, hasI (combOf g marks) t = g t) :=
  comb_fold hg marks [] hm (fun m h => .inl (hM m h)) (by simp) (by simp) fun t ht => by rw [hasI_nil, h0 t ht]
theorem comb_mem {g : Int → Bool} {marks : List Int} : ∀ x ∈ combOf g marks, x ∈ marks := by
  have : ∀ (l f : List Int), ∀ x ∈ l.foldl (combStep g) f, x ∈ f ∨ x ∈ l := by
    intro l
    induction l with
    | nil => intro f x hx; exact .inl hx
    | cons a r ih =>
      intro f x hx
      rw [List.foldl_cons] at hx
      rcases ih _ x hx with h | h
      · unfold combStep at h
        split at h
        · rcases List.mem_append.mp h with h | h
          · exact .inl h
          · exact .inr (by simp [List.mem_singleton.mp h])
        · exact .inl h
      · exact .inr (by simp [h])
  intro x hx
  rcases this marks [] x hx with h | h
  · cases h
  · exact h
theorem comb_length {g : Int → Bool} {marks : List Int} : (combOf g marks).length ≤ marks.length := by
  have : ∀ (l f : List Int), (l.foldl (combStep g) f).length ≤ f.length + l.length := by
    intro l
    induction l with
    | nil => intro f; simp
    | cons a r ih =>
      intro f
      rw [List.foldl_cons]
      refine Nat.le_trans (ih _) ?_
      unfold combStep
      split <;> simp <;> omega
  have h := this marks []
  rw [List.length_nil, Nat.zero_add] at h
  exact h
/-- the program's: two sets, marks sorted -/
def op2 (op : Bool → Bool → Bool) (one two : List Int) : Int → Bool := fun t => op (hasI one t) (hasI two t)
theorem op2_const (op : Bool → Bool → Bool) (one two : List Int) : ConstOff (op2 op one two) (one ++ two) := fun t u htu h => by
  have f : ∀ s : List Int, (∀ b ∈ s, b ∈ one ++ two) → hasI s t = hasI s u := fun s hs => hasI_same fun b hb => by
    have := h b (hs b hb)
    omega
  unfold op2
  rw [f one fun b hb => by simp [hb], f two fun b hb => by simp [hb]]
theorem op2_zero {op : Bool → Bool → Bool} (h0 : op false false = false) {one two : List Int} {t : Int} (h : ∀ m ∈ one ++ two, t < m) : op2 op one two t = false := by
  unfold op2
  rw [hasI_out fun b hb => h b (by simp [hb]), hasI_out fun b hb => h b (by simp [hb]), h0]
/-- marks: increasing, the bounds of both -/
structure Marks (one two marks : List Int) : Prop where
  inc : IncI marks
  mem : ∀ m, m ∈ marks ↔ m ∈ one ++ two
  len : marks.length ≤ one.length + two.length
theorem comb2_ok {op : Bool → Bool → Bool} (h0 : op false false = false) {one two marks : List Int} (hm : Marks one two marks) :
    IncI (combOf (op2 op one two) marks) ∧ (∀ t, hasI (combOf (op2 op one two) marks) t = op (hasI one t) (hasI two t)) :=
  comb_ok (op2_const op one two) hm.inc (fun m h => (hm.mem m).mpr h) fun t ht => op2_zero h0 fun m h => ht m ((hm.mem m).mpr h)
/-- against the specification -/
theorem changes_op2 {op : Bool → Bool → Bool} (h0 : op false false = false) {p q : List Nat} {b : Nat} (h : changes (fun t => op (has p t) (has q t)) b = true) : b ∈ p ++ q := by
  by_cases hb : b ∈ p ++ q
  · exact hb
  · exfalso
    have out : ∀ s : List Nat, (∀ x ∈ s, x ∈ p ++ q) → (b = 0 → has s 0 = false) ∧ (0 < b → has s b = has s (b - 1)) := fun s hs => by
      constructor
      · intro e
        subst e
        rw [← has_cast]
        refine hasI_out fun x hx => ?_
        obtain ⟨n, hn, rfl⟩ := List.mem_map.mp hx
        have : n ≠ 0 := fun z => hb (z ▸ hs n hn)
        omega
      · intro e
        rw [← has_cast, ← has_cast]
        refine hasI_same fun x hx => ?_
        obtain ⟨n, hn, rfl⟩ := List.mem_map.mp hx
        have : n ≠ b := fun z => hb (z ▸ hs n hn)
        omega
    obtain ⟨p1, p2⟩ := out p fun x hx => by simp [hx]
    obtain ⟨q1, q2⟩ := out q fun x hx => by simp [hx]
    unfold changes at h
    by_cases e : b = 0
    · rw [if_pos e] at h
      dsimp only at h
      rw [p1 e, q1 e, h0] at h
      cases h
    · rw [if_neg e] at h
      dsimp only at h
      rw [p2 (by omega), q2 (by omega)] at h
      simp at h
theorem comb_spec {op : Bool → Bool → Bool} (h0 : op false false = false) {p q : List Nat} {marks : List Int} (hm : Marks (up p) (up q) marks) :
    combOf (op2 op (up p) (up q)) marks = up (normal (fun t => op (has p t) (has q t)) (p ++ q)) := by
  obtain ⟨h1, h2⟩ := comb2_ok h0 hm
  refine normal_is (fun b h => changes_op2 h0 h) h1 (fun b hb => ?_) fun t => ?_
  · have := (hm.mem b).mp (comb_mem b hb)
    rw [← List.map_append] at this
    obtain ⟨n, _, rfl⟩ := List.mem_map.mp this
    omega
  · rw [h2, has_cast, has_cast]

/-! ### pieces -/
abbrev Pc := Int × Option Int
def endGt (e : Option Int) (t : Int) : Bool := match e with
  | none => true
  | some x => decide (t < x)
def inP (x : Pc) (t : Int) : Bool := decide (x.1 ≤ t) && endGt x.2 t
def reach (e : Option Int) (b : Int) : Bool := match e with
  | none => true
  | some x => decide (b ≤ x)
def laterE (a b : Option Int) : Option Int := match a, b with
  | some x, some y => some (if y > x then y else x)
  | _, _ => none
def jStep (f : List Pc) (x : Pc) : List Pc := match f.getLast? with
  | none => f ++ [x]
  | some y => if reach y.2 x.1 = true then f.dropLast ++ [(y.1, laterE y.2 x.2)] else f ++ [x]
def joinOf (l : List Pc) : List Pc := l.foldl jStep []
def bOf (l : List Pc) : List Int := l.flatMap fun x => x.1 :: x.2.toList
/-- one piece wholly before another -/
def Bef (x y : Pc) : Prop := ∃ e, x.2 = some e ∧ e < y.1
def Full (x : Pc) : Prop := ∀ e, x.2 = some e → x.1 < e
structure Chain (l : List Pc) : Prop where
  bef : l.Pairwise Bef
  full : ∀ x ∈ l, Full x
theorem bOf_cons (x : Pc) (l : List Pc) : bOf (x :: l) = x.1 :: x.2.toList ++ bOf l := by simp [bOf]
theorem bOf_append (l r : List Pc) : bOf (l ++ r) = bOf l ++ bOf r := by simp [bOf]
theorem mem_bOf {l : List Pc} {b : Int} : b ∈ bOf l ↔ ∃ x ∈ l, b = x.1 ∨ x.2 = some b := by
  unfold bOf
  rw [List.mem_flatMap]
  constructor
  · rintro ⟨x, hx, h⟩
    refine ⟨x, hx, ?_⟩
    rcases List.mem_cons.mp h with h | h
    · exact .inl h
    · exact .inr (by simpa using h)
  · rintro ⟨x, hx, h⟩
    refine ⟨x, hx, ?_⟩
    rcases h with h | h
    · simp [h]
    · simp [h]
theorem Full.has_one {x : Pc} (h : Full x) (t : Int) : hasI (x.1 :: x.2.toList) t = inP x t := by
  obtain ⟨a, e⟩ := x
  cases e with
  | none =>
    rw [hasI_cons]
    simp only [Option.toList, hasI_nil, inP, endGt]
    by_cases c : a ≤ t <;> simp [c]
  | some e =>
    have l : a < e := h e rfl
    rw [hasI_cons]
    simp only [Option.toList, hasI_cons, hasI_nil, inP, endGt]
    by_cases c : a ≤ t
    · by_cases d : e ≤ t
      · have : ¬ t < e := by omega
        simp [c, d, this]
      · have : t < e := by omega
        simp [c, d, this]
    · have : ¬ e ≤ t := by omega
      simp [c, this]
theorem Chain.tail {x : Pc} {l : List Pc} (h : Chain (x :: l)) : Chain l := ⟨h.bef.of_cons, fun y hy => h.full y (by simp [hy])⟩
theorem Chain.ok : ∀ {l : List Pc}, Chain l → IncI (bOf l) ∧ ∀ t, hasI (bOf l) t = l.any (inP · t)
  | [], _ => ⟨by simp [bOf], fun t => by simp [bOf, hasI_nil]⟩
  | x :: l, h => by
    obtain ⟨h1, h2⟩ := h.tail.ok
    have fx := h.full x (by simp)
    have hb : ∀ y ∈ l, Bef x y := fun y hy => List.rel_of_pairwise_cons h.bef hy
    have after : ∀ e, x.2 = some e → ∀ b ∈ bOf l, e < b := fun e he b hb' => by
      obtain ⟨y, hy, z⟩ := mem_bOf.mp hb'
      obtain ⟨e', he', lt⟩ := hb y hy
      rw [he] at he'
      cases he'
      rcases z with rfl | z
      · exact lt
      · have := h.full y (by simp [hy]) b z
        omega
    constructor
    · rw [bOf_cons]
      cases e : x.2 with
      | none =>
        have : l = [] := by
          cases l with
          | nil => rfl
          | cons y r =>
            obtain ⟨e', he', _⟩ := hb y (by simp)
            rw [e] at he'
            cases he'
        subst this
        simp [bOf]
      | some e' =>
        have l1 := fx e' e
        show IncI (x.1 :: e' :: bOf l)
        refine List.Pairwise.cons (fun b hb' => ?_) (List.Pairwise.cons (fun b hb' => after e' e b hb') h1)
        rcases List.mem_cons.mp hb' with rfl | hb'
        · exact l1
        · have := after e' e b hb'
          omega
    · intro t
      rw [bOf_cons, hasI_append, h2, fx.has_one, List.any_cons]
      -- not both
      cases c : inP x t with
      | false => simp
      | true =>
        have : l.any (inP · t) = false := by
          rw [List.any_eq_false]
          intro y hy hh
          obtain ⟨e', he', lt⟩ := hb y hy
          unfold inP endGt at c hh
          rw [he'] at c
          simp at c hh
          omega
        rw [this]
        rfl
/-! ### joined -/
theorem inP_merge {a : Int} {e1 : Option Int} {x : Pc} (hr : reach e1 x.1 = true) (hab : a ≤ x.1) (t : Int) : inP (a, laterE e1 x.2) t = (inP (a, e1) t || inP x t) := by
  obtain ⟨b, e2⟩ := x
  cases e1 with
  | none => cases e2 <;> simp [inP, laterE, endGt] <;> omega
  | some u =>
    have hr : b ≤ u := by simpa [reach] using hr
    have hab : a ≤ b := hab
    cases e2 with
    | none =>
      simp only [inP, laterE, endGt]
      rw [Bool.eq_iff_iff]
      simp
      omega
    | some v =>
      simp only [inP, laterE, endGt]
      rw [Bool.eq_iff_iff]
      simp
      split <;> omega
theorem jStep_nil (x : Pc) : jStep [] x = [x] := rfl
theorem jStep_snoc (f : List Pc) (y x : Pc) : jStep (f ++ [y]) x = if reach y.2 x.1 = true then f ++ [(y.1, laterE y.2 x.2)] else f ++ [y] ++ [x] := by
  unfold jStep
  rw [List.getLast?_concat]
  simp only [List.dropLast_concat]
structure JInv (f : List Pc) (rest : List Pc) : Prop where
  ch : Chain f
  le : ∀ x ∈ f, ∀ y ∈ rest, x.1 ≤ y.1
theorem join_fold : ∀ (l f : List Pc), l.Pairwise (fun x y => x.1 ≤ y.1) → (∀ x ∈ l, Full x) → JInv f l → Chain (l.foldl jStep f) ∧ ∀ t, (l.foldl jStep f).any (inP · t) = (f.any (inP · t) || l.any (inP · t))
  | [], f, _, _, J => ⟨J.ch, fun t => by simp⟩
  | x :: l, f, hs, hf, J => by
    rw [List.foldl_cons]
    have hx : ∀ y ∈ l, x.1 ≤ y.1 := fun y hy => List.rel_of_pairwise_cons hs hy
    have fx := hf x (by simp)
    have go : ∀ f' : List Pc, JInv f' l → (∀ t, f'.any (inP · t) = (f.any (inP · t) || inP x t)) → Chain (l.foldl jStep f') ∧ ∀ t, (l.foldl jStep f').any (inP · t) = (f.any (inP · t) || (x :: l).any (inP · t)) := fun f' J' h' => by
      obtain ⟨h1, h2⟩ := join_fold l f' hs.of_cons (fun y hy => hf y (by simp [hy])) J'
      refine ⟨h1, fun t => ?_⟩
      rw [h2, h', List.any_cons, Bool.or_assoc]
    rcases List.eq_nil_or_concat f with rfl | ⟨f0, y, rfl⟩
    · refine go _ ⟨⟨by simp [jStep_nil], fun z hz => ?_⟩, fun z hz => ?_⟩ fun t => by simp [jStep_nil]
      · rw [jStep_nil, List.mem_singleton] at hz; subst hz; exact fx
      · rw [jStep_nil, List.mem_singleton] at hz; subst hz; exact hx
    · rw [List.concat_eq_append] at J go ⊢
      have hyx : y.1 ≤ x.1 := J.le y (by simp) x (by simp)
      have fy : Full y := J.ch.full y (by simp)
      obtain ⟨b1, _, b3⟩ := List.pairwise_append.mp J.ch.bef
      by_cases c : reach y.2 x.1 = true
      · rw [jStep_snoc, if_pos c]
        refine go _ ⟨⟨?_, fun z hz => ?_⟩, fun z hz w hw => ?_⟩ fun t => ?_
        · refine List.pairwise_append.mpr ⟨b1, by simp, fun a ha b hb => ?_⟩
          rw [List.mem_singleton.mp hb]
          exact b3 a ha y (by simp)
        · rcases List.mem_append.mp hz with hz | hz
          · exact J.ch.full z (by simp [hz])
          · rw [List.mem_singleton.mp hz]
            intro e he
            have he : laterE y.2 x.2 = some e := he
            show y.1 < e
            cases h1 : y.2 with
            | none => rw [h1] at he; cases x.2 <;> cases he
            | some u =>
              cases h2 : x.2 with
              | none => rw [h1, h2] at he; cases he
              | some v =>
                rw [h1, h2] at he
                have e1 := fy u h1
                have he : (if v > u then v else u) = e := Option.some.inj he
                split at he <;> omega
        · rcases List.mem_append.mp hz with hz | hz
          · exact J.le z (by simp [hz]) w (by simp [hw])
          · rw [List.mem_singleton.mp hz]
            exact J.le y (by simp) w (by simp [hw])
        · rw [List.any_append, List.any_append, List.any_cons, List.any_cons, inP_merge c hyx]
          simp [Bool.or_assoc]
      · rw [jStep_snoc, if_neg c]
        refine go _ ⟨⟨?_, fun z hz => ?_⟩, fun z hz w hw => ?_⟩ fun t => ?_
        · refine List.pairwise_append.mpr ⟨J.ch.bef, by simp, fun a ha b hb => ?_⟩
          rw [List.mem_singleton.mp hb]
          cases h1 : y.2 with
          | none => rw [h1] at c; exact absurd rfl c
          | some u =>
            rw [h1] at c
            have c : u < x.1 := by
              have : ¬ x.1 ≤ u := by simpa [reach] using c
              omega
            rcases List.mem_append.mp ha with ha | ha
            · obtain ⟨e, he, lt⟩ := b3 a ha y (by simp)
              exact ⟨e, he, by omega⟩
            · rw [List.mem_singleton.mp ha]
              exact ⟨u, h1, c⟩
        · rcases List.mem_append.mp hz with hz | hz
          · exact J.ch.full z hz
          · rw [List.mem_singleton.mp hz]; exact fx
        · rcases List.mem_append.mp hz with hz | hz
          · exact J.le z hz w (by simp [hw])
          · rw [List.mem_singleton.mp hz]; exact hx w hw
        · rw [List.any_append]
          simp
/-- what bounds_of gives of pieces that are handed in in the order of their begins -/
theorem join_ok {l : List Pc} (hs : l.Pairwise (fun x y => x.1 ≤ y.1)) (hf : ∀ x ∈ l, Full x) : IncI (bOf (joinOf l)) ∧ ∀ t, hasI (bOf (joinOf l)) t = l.any (inP · t) := by
  obtain ⟨h1, h2⟩ := join_fold l [] hs hf ⟨⟨by simp, by simp⟩, by simp⟩
  obtain ⟨h3, h4⟩ := h1.ok
  refine ⟨h3, fun t => ?_⟩
  rw [show bOf (joinOf l) = bOf (l.foldl jStep []) from rfl, h4, h2]
  simp
end Ms
end

/-! text R1 -/
section
set_option Elab.async false
set_option linter.all false
set_option maxRecDepth 100000
set_option maxHeartbeats 4000000
/-! xs[k::2] -/
namespace Ms
def ev2 {α : Type} : List α → List α
  | [] => []
  | [a] => [a]
  | a :: _ :: r => a :: ev2 r
theorem ev2_pick {α : Type} : ∀ (ys : List α), (List.range ((ys.length + 1) / 2)).filterMap (fun m => ys[2 * m]?) = ev2 ys
  | [] => by simp [ev2]
  | [a] => by
    have e : ([a].length + 1) / 2 = 1 := by simp
    rw [e]
    simp [ev2, List.range_succ]
  | a :: b :: r => by
    have e : ((a :: b :: r).length + 1) / 2 = (r.length + 1) / 2 + 1 := by simp only [List.length_cons]; omega
    rw [e, List.range_succ_eq_map, List.filterMap_cons]
    have e0 : (a :: b :: r)[2 * 0]? = some a := rfl
    simp only [e0]
    rw [List.filterMap_map]
    show a :: _ = a :: ev2 r
    rw [← ev2_pick r]
    congr 1
theorem ev2_length {α : Type} : ∀ (ys : List α), (ev2 ys).length ≤ ys.length
  | [] => Nat.le_refl _
  | [a] => Nat.le_refl _
  | a :: b :: r => by
    have := ev2_length r
    simp only [ev2, List.length_cons]
    omega
theorem fm_congr {α β : Type} {f g : α → Option β} : ∀ {l : List α}, (∀ x ∈ l, f x = g x) → l.filterMap f = l.filterMap g
  | [], _ => rfl
  | a :: r, h => by
    rw [List.filterMap_cons, List.filterMap_cons, h a (by simp), fm_congr fun x hx => h x (by simp [hx])]
end Ms
namespace L2
open PySem PySem.Spec PyProof.Rows
theorem slicePick2 (k : Nat) (items : Array Value) : slicePick items (some (k : Int)) none (some 2) = (Ms.ev2 (items.toList.drop k)).toArray := by
  have b : sliceBounds (some (k : Int)) none (some 2) items.size = (((min k items.size : Nat) : Int), (items.size : Int), 2) := by
    unfold sliceBounds
    simp only [Option.getD_some]
    have h1 : ((2 : Int) > 0) := by decide
    simp only [h1, if_true]
    have h2 : ¬ ((k : Int) < 0) := by omega
    simp only [h2, if_false]
    refine Prod.ext ?_ rfl
    show max 0 (min (k : Int) (items.size : Int)) = _
    omega
  unfold slicePick
  rw [b]
  congr 1
  unfold sliceRange
  have h1 : ((2 : Int) > 0) := by decide
  simp only [h1, if_true]
  rw [List.filterMap_map]
  have hc : (if ((min k items.size : Nat) : Int) < (items.size : Int) then ((items.size : Int) - ((min k items.size : Nat) : Int) + 2 - 1) / 2 else 0).toNat = ((items.toList.drop k).length + 1) / 2 := by
    rw [List.length_drop, Array.length_toList]
    split
    · rename_i h
      have : min k items.size = k := by omega
      omega
    · rename_i h
      have : items.size ≤ k := by omega
      omega
  rw [hc, ← Ms.ev2_pick]
  refine Ms.fm_congr fun m hm => ?_
  have hm := List.mem_range.mp hm
  rw [List.length_drop, Array.length_toList] at hm
  have e : (((min k items.size : Nat) : Int) + 2 * (m : Int)).toNat = k + 2 * m := by omega
  show items[(((min k items.size : Nat) : Int) + 2 * (m : Int)).toNat]? = _
  rw [e, List.getElem?_drop, Array.getElem?_toList]
theorem Vals.ev2 : ∀ {xs : List V} {us : List Value}, Vals xs us → Vals (Ms.ev2 xs) (Ms.ev2 us)
  | _, _, .nil => .nil
  | _, _, .cons r .nil => .cons r .nil
  | _, _, .cons r (.cons _ t) => .cons r (Vals.ev2 t)
def tSl2 (K : PySem.W.Frag) (k : Nat) (te : TE) : TE := fun σ H Q => te σ H fun x H1 => ∃ a xs, x = .ref a ∧ SqL K H1 a xs ∧ ∀ p, H1 p = none → Q (.ref p) (upd H1 p (.lst (Ms.ev2 (xs.drop k))))
theorem pe_sl2 {X : Cx} {e : Expr} {te : TE} {k j1 j2 : Nat} {p1 p2 p3 pos : Pos} (he : PE X e te) : PE X (.Subscript e (.Slice (some (.Constant (.int (k : Int)) j1 p1)) none (some (.Constant (.int 2) j2 p2)) p3) pos) (tSl2 X.K k te) := by
  refine ⟨fun pins s σ H Q I h => ?_⟩
  refine Subscript_ (thn (he.run pins s σ H _ I h) fun v s1 ⟨x, H1, I1, r1, q1⟩ => ?_)
  obtain ⟨a, xs, ex, hx, q⟩ := q1
  subst ex
  cases r1
  have hlo : PO X (some (.Constant (.int (k : Int)) j1 p1)) (tPart (tC (.int (k : Int)))) := po_some pe_int
  have hst : PO X (some (.Constant (.int 2) j2 p2)) (tPart (tC (.int 2))) := po_some pe_int
  refine wpAny_Slice (thn (hlo.run pins s1 σ H1 (fun o H2 => o = some (k : Int) ∧ H2 = H1) I1 ⟨_, rfl, rfl, rfl⟩) fun vl s2 ⟨l, H2, I2, pl, el, e2⟩ => ?_)
  subst el e2
  refine thn (po_none.run pins s2 σ H2 (fun o H3 => o = none ∧ H3 = H2) I2 ⟨rfl, rfl⟩) fun vu s3 ⟨u, H3, I3, pu, eu, e3⟩ => ?_
  subst eu e3
  refine thn (hst.run pins s3 σ H3 (fun o H4 => o = some 2 ∧ H4 = H3) I3 ⟨_, rfl, rfl, rfl⟩) fun vs s4 ⟨o, H4, I4, ps, eo, e4⟩ => ?_
  subst eo e4
  have I5 : Inv X pins σ H4 { s4 with heap := s4.heap.push { cls := .type "slice", data := .fields #[vl, vu, vs] } } := I4.kept (t' := s4.toks) fun b ob q => Heap.get?_push_of_some _ q
  obtain ⟨its, r, ht, hz⟩ := I5.list hx
  have hlen := r.length
  show wpAny (model X.prog X.w) X.A (subscriptTail e (.Slice (some (.Constant (.int (k : Int)) j1 p1)) none (some (.Constant (.int 2) j2 p2)) p3) (.ref a) (.ref s4.heap.objs.size)) (EP X pins σ Q) X.xe { s4 with heap := s4.heap.push { cls := .type "slice", data := .fields #[vl, vu, vs] } }
  refine tail_any (ops := [.ref a, .ref s4.heap.objs.size]) ht.isList.typeIs (PySem.slot_list_getitem.lookup) ?_ (by with_unfolding_all rfl)
  refine wpAny_getItem_list_slice ht.isList (Heap.IsSliceOf.new _ vl vu vs) pl pu ps (by decide) ?_ (by rw [List.size_toArray]; omega)
  rw [slicePick2]
  refine ⟨.ref _, _, I5.laid (t' := s4.toks) (o := .lst (Ms.ev2 (xs.drop k))) (fun b ob q => Heap.get?_push_of_some _ q) (Nat.le_refl _) ?_, rfl, q _ (I5.hok.fresh (Nat.le_refl _))⟩
  refine ⟨Nat.le_trans (Ms.ev2_length _) (by rw [List.length_drop]; omega), _, 0, (r.drop k).ev2, Heap.get?_push_size _ rfl⟩
end L2
end

/-! text R2 -/
section
set_option Elab.async false
set_option linter.all false
set_option maxRecDepth 100000
set_option maxHeartbeats 4000000
/-! list(zip(xs, ys)) of two lists -/
namespace PySem.W
open PySem PySem.Calls PyProof.Rows PyProof.V PySem.Spec
theorem ne_lo {lo a b : Nat} (h1 : b < lo) (h2 : lo ≤ a) : a ≠ b := by omega
structure LzSt (z TI TO i1 i2 l1 l2 S : Addr) (xs ys : Array Value) (i : Nat) (h : Heap) : Prop where
  ti : IsPair h TI (.ref i1) (.ref i2)
  h1 : h.IsListIter i1 l1 i
  h2 : h.IsListIter i2 l2 i
  l1 : h.IsList l1 xs
  l2 : h.IsList l2 ys
  zz : (IsZip h z TI TO .none ∧ ∃ a b, IsPair h TO a b) ∨ ∃ T f oT, IsZipHeld h z TI TO T f ∧ h.get? T = some oT ∧ T ≠ z ∧ T ≠ i1 ∧ T ≠ i2 ∧ T ≠ S
section
variable {prog : Program} {w : World} {A : Around} {E : Value → Shared → Prop} {s : Shared} {z TI TO i1 i2 l1 l2 S : Addr} {xs ys : Array Value}
theorem LzSt.frame {i : Nat} {h h' : Heap} (x : LzSt z TI TO i1 i2 l1 l2 S xs ys i h) (nS : S ≠ z ∧ S ≠ TI ∧ S ≠ TO ∧ S ≠ i1 ∧ S ≠ i2 ∧ S ≠ l1 ∧ S ≠ l2) (k : ∀ b o, b ≠ S → h.get? b = some o → h'.get? b = some o) : LzSt z TI TO i1 i2 l1 l2 S xs ys i h' := by
  obtain ⟨nz, nTI, nTO, n1, n2, m1, m2⟩ := nS
  refine ⟨k _ _ (Ne.symm nTI) x.ti, x.h1.at fun o e => k _ o (Ne.symm n1) e, x.h2.at fun o e => k _ o (Ne.symm n2) e, x.l1.at fun o e => k _ o (Ne.symm m1) e, x.l2.at fun o e => k _ o (Ne.symm m2) e, ?_⟩
  rcases x.zz with ⟨hz, a, b, hTO⟩ | ⟨T, f, oT, hz, hT, r1, r2, r3, r4⟩
  · exact .inl ⟨k _ _ (Ne.symm nz) hz, a, b, k _ _ (Ne.symm nTO) hTO⟩
  · exact .inr ⟨T, f, oT, k _ _ (Ne.symm nz) hz, k _ _ r4 hT, r1, r2, r3, r4⟩
theorem lz_item {i : Nat} {x y : Value} {Q : Option Value → Shared → Prop} (D : ZipApart z TI TO i1 i2 l1 l2) (st : LzSt z TI TO i1 i2 l1 l2 S xs ys i s.heap) (hS : S < s.heap.objs.size) (hx : xs[i]? = some x) (hy : ys[i]? = some y)
    (hQ : ∀ h', LzSt z TI TO i1 i2 l1 l2 S xs ys (i + 1) h' → h'.get? s.heap.objs.size = some { cls := .type "tuple", data := .seq #[x, y] } → h'.objs.size = s.heap.objs.size + 1 →
      (∀ b o, b ≠ z → b ≠ TO → b ≠ i1 → b ≠ i2 → s.heap.get? b = some o → h'.get? b = some o) → Q (some (.ref s.heap.objs.size)) { s with heap := h' }) :
    wpAny (model prog w) A (pyNext (.ref z)) Q E s := by
  have lt : ∀ {c o}, s.heap.get? c = some o → s.heap.objs.size ≠ c := fun e => Nat.ne_of_gt (Heap.lt_size e)
  have n1 : s.heap.objs.size ≠ i1 := let ⟨_, e, _⟩ := st.h1; lt e
  have n2 : s.heap.objs.size ≠ i2 := let ⟨_, e, _⟩ := st.h2; lt e
  rcases st.zz with ⟨hz, a, b, hTO⟩ | ⟨T, f, oT, hz, hT, r1, r2, r3, r4⟩
  · refine wpAny_pyNext_zip_item D hz st.ti hTO st.h1 st.h2 st.l1 st.l2 hx hy fun h' a1 a2 a3 a4 a5 a6 hk => hQ h' ⟨hk _ _ D.TIz D.TITO D.TIi1 D.TIi2 st.ti, a3, a4, st.l1.at fun o e => hk _ o D.l1z D.l1TO D.l1i1 D.l1i2 e, st.l2.at fun o e => hk _ o D.l2z D.l2TO D.l2i1 D.l2i2 e, ?_⟩ a5 a6 fun c o h1 h2 h3 h4 e => hk c o h1 h2 h3 h4 e
    exact .inr ⟨s.heap.objs.size, false, _, a1, a5, lt hz, n1, n2, Nat.ne_of_gt hS⟩
  · refine wpAny_pyNext_zip_item_held D hz hT st.ti st.h1 st.h2 st.l1 st.l2 hx hy fun h' a1 a3 a4 a5 a6 hk => hQ h' ⟨hk _ _ D.TIz D.TIi1 D.TIi2 st.ti, a3, a4, st.l1.at fun o e => hk _ o D.l1z D.l1i1 D.l1i2 e, st.l2.at fun o e => hk _ o D.l2z D.l2i1 D.l2i2 e, ?_⟩ a5 a6 fun c o h1 h2 h3 h4 e => hk c o h1 h3 h4 e
    exact .inr ⟨T, true, oT, a1, hk _ _ r1 r2 r3 hT, r1, r2, r3, r4⟩
theorem lz_done {i : Nat} {Q : Option Value → Shared → Prop} (hh : A.handled = none) (D : ZipApart z TI TO i1 i2 l1 l2) (st : LzSt z TI TO i1 i2 l1 l2 S xs ys i s.heap) (hend : xs[i]? = none ∨ ys[i]? = none)
    (hQ : ∀ h', (∀ b o, b ≠ z → b ≠ TO → b ≠ i1 → b ≠ i2 → s.heap.get? b = some o → h'.get? b = some o) → Q none { s with heap := h' }) : wpAny (model prog w) A (pyNext (.ref z)) Q E s := by
  rcases st.zz with ⟨hz, a, b, hTO⟩ | ⟨T, f, oT, hz, hT, r1, r2, r3, r4⟩
  · exact wpAny_pyNext_zip_end hh D hz st.ti hTO st.h1 st.h2 st.l1 st.l2 hend fun h' hk => hQ h' fun c o h1 h2 h3 h4 e => hk c o h1 h2 h3 h4 e
  · exact wpAny_pyNext_zip_end_held hh D hz hT st.ti st.h1 st.h2 st.l1 st.l2 hend fun h' hk => hQ h' fun c o h1 h2 h3 h4 e => hk c o h1 h3 h4 e
/-- the tuples made so far -/
structure LzG (xs ys : Array Value) (lo : Addr) (h : Heap) (as : List Addr) : Prop where
  rise : as.Pairwise (· < ·)
  above : ∀ a ∈ as, lo ≤ a
  pairs : ∀ (j : Nat) (a : Addr), as[j]? = some a → ∃ x y, xs[j]? = some x ∧ ys[j]? = some y ∧ h.get? a = some { cls := .type "tuple", data := .seq #[x, y] }
theorem LzG.there {lo : Addr} {h : Heap} {as : List Addr} (g : LzG xs ys lo h as) {a : Addr} (ha : a ∈ as) : a < h.objs.size := by
  obtain ⟨j, hj⟩ := List.mem_iff_getElem?.mp ha
  obtain ⟨_, _, _, _, e⟩ := g.pairs j a hj
  exact Heap.lt_size e
theorem LzG.keep {lo : Addr} {h h' : Heap} {as : List Addr} (g : LzG xs ys lo h as) (k : ∀ a ∈ as, ∀ o, h.get? a = some o → h'.get? a = some o) : LzG xs ys lo h' as :=
  ⟨g.rise, g.above, fun j a hj => let ⟨x, y, h1, h2, e⟩ := g.pairs j a hj; ⟨x, y, h1, h2, k a (List.mem_of_getElem? hj) _ e⟩⟩
end
section
variable {prog : Program} {w : World} {A : Around} {s : Shared} {R : Result → Shared → Prop} {z TI TO i1 i2 l1 l2 : Addr} {xs ys : Array Value}
theorem lz_loop {S lo n : Nat} (hh : A.handled = none) (D : ZipApart z TI TO i1 i2 l1 l2) (nS : S ≠ z ∧ S ≠ TI ∧ S ≠ TO ∧ S ≠ i1 ∧ S ≠ i2 ∧ S ≠ l1 ∧ S ≠ l2) (hlo : S < lo ∧ z < lo ∧ TI < lo ∧ TO < lo ∧ i1 < lo ∧ i2 < lo)
    (hnx : n = min xs.size ys.size) (hn : n ≤ sizeLine) (res : Value) {h₁ : Heap}
    (hR : ∀ h' tk acc c as, (∀ b o, b ≠ S → b ≠ z → b ≠ TO → b ≠ i1 → b ≠ i2 → h₁.get? b = some o → h'.get? b = some o) → h'.get? S = some { cls := .type "list", dict := none, data := .seq acc c, slots := #[] } → as.length = n → LzG xs ys lo h' as →
      acc.toList = as.map Value.ref → R (.ok (.ret res)) { s with heap := h', toks := tk }) :
    ∀ (k i : Nat) (h : Heap) (tk c : Nat) (acc : Array Value) (as : List Addr), n - i = k → i ≤ n → LzSt z TI TO i1 i2 l1 l2 S xs ys i h → (∀ b o, b ≠ S → b ≠ z → b ≠ TO → b ≠ i1 → b ≠ i2 → h₁.get? b = some o → h.get? b = some o) →
      h.get? S = some { cls := .type "list", dict := none, data := .seq acc c, slots := #[] } → acc.toList = as.map Value.ref → as.length = i → LzG xs ys lo h as → lo ≤ h.objs.size →
      codeAny (model prog w) A (.builtin "list.extend.loop" ⟨[.ref S, .ref z, res], []⟩) R { s with heap := h, toks := tk } := by
  intro k
  obtain ⟨b0, b1, b2, b3, b4, b5⟩ := hlo
  induction k with
  | zero =>
    intro i h tk c acc as hk hi hst hkeep hS hacc hal hG hIs
    have hin : i = n := by omega
    have hend : xs[i]? = none ∨ ys[i]? = none := by
      rcases Nat.le_total xs.size ys.size with q | q
      · exact .inl (Array.getElem?_eq_none (by omega))
      · exact .inr (Array.getElem?_eq_none (by omega))
    refine codeAny_builtin PySem.F.entry_extend_loop ?_
    rw [Around.under_plainId PySem.F.plain_extend_loop _]
    show wpAny _ A.in1 (pyNext (.ref z) >>= _) _ _ _
    refine wpAny_bind (lz_done (s := { s with heap := h, toks := tk }) (A := A.in1) hh D hst hend fun h' he => ?_)
    refine wpAny_pure (hR h' tk acc c as (fun b o q0 q1 q2 q3 q4 e => he b o q1 q2 q3 q4 (hkeep b o q0 q1 q2 q3 q4 e)) (he S _ nS.1 nS.2.2.1 nS.2.2.2.1 nS.2.2.2.2.1 hS) (by omega) (hG.keep fun a ha o e => ?_) hacc)
    have := hG.above a ha
    exact he a o (ne_lo b1 this) (ne_lo b3 this) (ne_lo b4 this) (ne_lo b5 this) e
  | succ k ih =>
    intro i h tk c acc as hk hi hst hkeep hS hacc hal hG hIs
    have hlt : i < n := by omega
    have hix : i < xs.size := by omega
    have hiy : i < ys.size := by omega
    have hsz : acc.size = i := by rw [← Array.length_toList, hacc, List.length_map, hal]
    refine codeAny_builtin PySem.F.entry_extend_loop ?_
    rw [Around.under_plainId PySem.F.plain_extend_loop _]
    show wpAny _ A.in1 (pyNext (.ref z) >>= _) _ _ _
    refine wpAny_bind (lz_item (s := { s with heap := h, toks := tk }) (S := S) D hst (Heap.lt_size hS) (Array.getElem?_eq_getElem hix) (Array.getElem?_eq_getElem hiy) fun h' hst' ht hz hkp => ?_)
    dsimp only at ht hz hkp ⊢
    have hS' := hkp S _ nS.1 nS.2.2.1 nS.2.2.2.1 nS.2.2.2.2.1 hS
    have up : ∀ b o, b ≠ S → h'.get? b = some o → (h'.update S (Obj.mapSeq (·.push (Value.ref h.objs.size)))).get? b = some o := fun b o hb e => (Heap.get?_update_other _ _ (Ne.symm hb)).trans e
    have hSl : S < h.objs.size := Heap.lt_size hS
    show wpAny _ A.in1 (updateSeq S (·.push (Value.ref h.objs.size)) >>= _) _ _ _
    refine wpAny_bind ?_
    refine wpAny_updateSeq hS' rfl (wpAny_pure ⟨plainId_quiet PySem.F.plain_extend_loop _, ih (i + 1) _ tk _ (acc.push (Value.ref h.objs.size)) (as ++ [h.objs.size]) (by omega) hlt (hst'.frame nS up)
      (fun b o q0 q1 q2 q3 q4 e => up b o q0 (hkp b o q1 q2 q3 q4 (hkeep b o q0 q1 q2 q3 q4 e))) (Heap.get?_update_self _ hS' rfl) (by rw [Array.toList_push, hacc, List.map_append]; rfl) (by rw [List.length_append, hal]; rfl) ⟨?_, ?_, ?_⟩ ?_⟩) (by rw [hsz]; omega) (by show (acc.push (Value.ref h.objs.size)).size ≤ sizeLine + 1; rw [Array.size_push, hsz]; omega)
    · refine List.pairwise_append.mpr ⟨hG.rise, List.pairwise_singleton _ _, fun a ha b hb => ?_⟩
      rw [List.mem_singleton.mp hb]
      exact hG.there ha
    · intro a ha
      rcases List.mem_append.mp ha with ha | ha
      · exact hG.above a ha
      · rw [List.mem_singleton.mp ha]; exact hIs
    · intro j b hj
      rcases Nat.lt_trichotomy j as.length with h1 | h1 | h1
      · rw [List.getElem?_append_left h1] at hj
        obtain ⟨x, y, e1, e2, e3⟩ := hG.pairs j b hj
        have hb := hG.above b (List.mem_of_getElem? hj)
        exact ⟨x, y, e1, e2, up b _ (ne_lo b0 hb) (hkp b _ (ne_lo b1 hb) (ne_lo b3 hb) (ne_lo b4 hb) (ne_lo b5 hb) e3)⟩
      · subst h1
        have hb : h.objs.size = b := by simpa using hj
        subst hb
        subst hal
        exact ⟨_, _, Array.getElem?_eq_getElem hix, Array.getElem?_eq_getElem hiy, up _ _ (Nat.ne_of_gt hSl) ht⟩
      · have hnone : (as ++ [h.objs.size])[j]? = none := List.getElem?_eq_none (by rw [List.length_append, List.length_singleton]; omega)
        rw [hnone] at hj; cases hj
    · have e : (h'.update S (Obj.mapSeq (·.push (Value.ref h.objs.size)))).get? h.objs.size = _ := up _ _ (Nat.ne_of_gt hSl) ht
      exact Nat.le_of_lt (Nat.lt_of_le_of_lt hIs (Heap.lt_size e))
end
theorem zip_no_len : typeLookup (.type "zip") "__len__" = pure none := am_miss_of_fast (by decide +kernel)
theorem zip_no_hint : typeLookup (.type "zip") "__length_hint__" = pure none := am_miss_of_fast (by decide +kernel)
section
variable {prog : Program} {w : World} {A : Around} {E : Value → Shared → Prop} {s : Shared}
theorem lz_hint {r : Addr} (hT : s.TypeIs (.ref r) "zip") {Q : Bool → Shared → Prop} (h : Q true s) : wpAny (model prog w) A (Builtin.List.listLengthHint (.ref r)) Q E s := by
  unfold Builtin.List.listLengthHint
  refine wpAny_bind (wpAny_specialOf (r := none) hT zip_no_len ?_)
  refine wpAny_ite_split (fun hab => absurd hab (by decide)) (fun _ => ?_)
  refine wpAny_ite_split (fun hab => absurd hab (by decide)) (fun _ => ?_)
  refine wpAny_bind (wpAny_specialOf (r := none) hT zip_no_hint ?_)
  exact wpAny_pure h
end
section
variable {prog : Program} {w : World} {A : Around} {E : Value → Shared → Prop} {s : Shared} {z TI TO i1 i2 l1 l2 : Addr} {xs ys : Array Value}
theorem lz_extend {R : Result → Shared → Prop} {n : Nat} (hh : A.handled = none) (D : ZipApart z TI TO i1 i2 l1 l2) {S : Addr} (nS : S ≠ z ∧ S ≠ TI ∧ S ≠ TO ∧ S ≠ i1 ∧ S ≠ i2 ∧ S ≠ l1 ∧ S ≠ l2)
    (hb : z < s.heap.objs.size ∧ TI < s.heap.objs.size ∧ TO < s.heap.objs.size ∧ i1 < s.heap.objs.size ∧ i2 < s.heap.objs.size) (st : LzSt z TI TO i1 i2 l1 l2 S xs ys 0 s.heap) (res : Value) (c₀ : Nat) (hS : s.heap.get? S = some { cls := .type "list", data := .seq #[] c₀ })
    (hzT : s.TypeIs (.ref z) "zip") (hzI : ∀ {h : Heap} {Q : Value → Shared → Prop}, (∀ o, s.heap.get? z = some o → h.get? z = some o) → Q (.ref z) { s with heap := h } → wpAny (model prog w) A.in1 (pyIter (.ref z)) Q (fun e s' => R (.error e) s') { s with heap := h })
    (hnx : n = min xs.size ys.size) (hn : n ≤ sizeLine)
    (hR : ∀ h' tk acc c as, (∀ b o, b ≠ S → b ≠ z → b ≠ TO → b ≠ i1 → b ≠ i2 → s.heap.get? b = some o → h'.get? b = some o) → h'.get? S = some { cls := .type "list", dict := none, data := .seq acc c, slots := #[] } → as.length = n → LzG xs ys s.heap.objs.size h' as →
      acc.toList = as.map Value.ref → R (.ok (.ret res)) { s with heap := h', toks := tk }) :
    wpAny (model prog w) A.in1 (Builtin.List.listExtendWith (.ref S) (.ref z) res)
      (fun fin s' => match fin with | .done f => R (.ok f) s' | .again c' => c'.quiet = true ∧ codeAny (model prog w) A c' R s') (fun e s' => R (.error e) s') s := by
  obtain ⟨b1, b2, b3, b4, b5⟩ := hb
  have b0 : S < s.heap.objs.size := Heap.lt_size hS
  unfold Builtin.List.listExtendWith
  refine wpAny_bind (wpAny_typeOf (T := "zip") hzT ?_)
  have h1 : Builtin.List.listSameRef (.ref S) (.ref z) = false := by simp [Builtin.List.listSameRef, nS.1]
  have h2 : (Value.type "zip" == Value.type "list") = false := by decide
  have h3 : (Value.type "zip" == Value.type "tuple") = false := by decide
  simp only [h1, h2, h3, Bool.or_false, Bool.false_eq_true, if_false]
  refine wpAny_bind (hzI (h := s.heap) (fun _ e => e) ?_)
  refine wpAny_bind (wpAny_holding (lz_hint hzT ?_))
  refine wpAny_ite_split (fun _ => ?_) (fun hab => absurd (by decide) hab)
  refine wpAny_bind (wpAny_rule ?_)
  refine wpAny_bind ?_
  show wpAny _ _ (updateSeq S (·.push .none) >>= fun _ => updateSeq S (·.pop)) _ _ _
  refine wpAny_bind (wpAny_updateSeq hS rfl ?_)
  have hS₂ := Heap.get?_update_self (Obj.mapSeq (·.push Value.none)) hS rfl
  refine wpAny_updateSeq (hz := by seq_fits) hS₂ rfl ?_
  have hS₃ := Heap.get?_update_self (Obj.mapSeq (·.pop)) hS₂ rfl
  have oth : ∀ b o, b ≠ S → s.heap.get? b = some o → ((s.heap.update S (Obj.mapSeq (·.push Value.none))).update S (Obj.mapSeq (·.pop))).get? b = some o := fun b o hb e => (Heap.get?_update_other _ _ (Ne.symm hb)).trans ((Heap.get?_update_other _ _ (Ne.symm hb)).trans e)
  have hsz : s.heap.objs.size ≤ ((s.heap.update S (Obj.mapSeq (·.push Value.none))).update S (Obj.mapSeq (·.pop))).objs.size := by
    rw [Heap.size_update, Heap.size_update]
    exact Nat.le_refl _
  refine wpAny_pure ⟨plainId_quiet PySem.F.plain_extend_loop _, ?_⟩
  exact lz_loop (lo := s.heap.objs.size) (s := s) (h₁ := s.heap) hh D nS ⟨b0, b1, b2, b3, b4, b5⟩ hnx hn res hR n 0 _ _ _ #[] [] (Nat.sub_zero _) (Nat.zero_le _) (st.frame nS oth) (fun b o q0 _ _ _ _ e => oth b o q0 e) hS₃ rfl rfl
    ⟨List.Pairwise.nil, (fun _ ha => nomatch ha), (fun j a hj => by simp at hj)⟩ hsz
theorem lz_call {Q : Value → Shared → Prop} {n : Nat} (hh : A.handled = none) (D : ZipApart z TI TO i1 i2 l1 l2) (hz : IsZip s.heap z TI TO .none) (hTI : IsPair s.heap TI (.ref i1) (.ref i2)) (hTO : ∃ a b, IsPair s.heap TO a b) (h1 : s.heap.IsListIter i1 l1 0) (h2 : s.heap.IsListIter i2 l2 0)
    (hl1 : s.heap.IsList l1 xs) (hl2 : s.heap.IsList l2 ys) (hnx : n = min xs.size ys.size) (hn : n ≤ sizeLine)
    (hQ : ∀ h' tk acc c as, (∀ b o, b ≠ z → b ≠ TO → b ≠ i1 → b ≠ i2 → s.heap.get? b = some o → h'.get? b = some o) → h'.get? s.heap.objs.size = some { cls := .type "list", dict := none, data := .seq acc c, slots := #[] } → as.length = n → LzG xs ys (s.heap.objs.size + 1) h' as →
      acc.toList = as.map Value.ref → Q (.ref s.heap.objs.size) { s with heap := h', toks := tk }) :
    wpAny (model prog w) A (call (.type "list") [.ref z]) Q E s := by
  refine callType_codes (Q₁ := fun obj s₁ => obj = .ref s.heap.objs.size ∧ s₁ = { s with heap := s.heap.push { cls := .type "list", data := .seq #[] } }) PySem.F.called_list (PySem.F.typeCall_list_1 _) PySem.F.entry_list_init
    (code_list_new _ ⟨rfl, rfl⟩) fun obj s₁ h₁ => ?_
  obtain ⟨rfl, rfl⟩ := h₁
  have hS : (s.heap.push { cls := .type "list", data := .seq #[] }).get? s.heap.objs.size = some { cls := .type "list", data := .seq #[] } := Heap.get?_push_size _ rfl
  obtain ⟨ta, tb, hTO⟩ := hTO
  have lz : z < s.heap.objs.size := Heap.lt_size hz
  have lTI : TI < s.heap.objs.size := Heap.lt_size hTI
  have lTO : TO < s.heap.objs.size := Heap.lt_size hTO
  have li1 : i1 < s.heap.objs.size := let ⟨_, e, _⟩ := h1; Heap.lt_size e
  have li2 : i2 < s.heap.objs.size := let ⟨_, e, _⟩ := h2; Heap.lt_size e
  have ll1 : l1 < s.heap.objs.size := let ⟨_, e, _⟩ := hl1; Heap.lt_size e
  have ll2 : l2 < s.heap.objs.size := let ⟨_, e, _⟩ := hl2; Heap.lt_size e
  have nS : s.heap.objs.size ≠ z ∧ s.heap.objs.size ≠ TI ∧ s.heap.objs.size ≠ TO ∧ s.heap.objs.size ≠ i1 ∧ s.heap.objs.size ≠ i2 ∧ s.heap.objs.size ≠ l1 ∧ s.heap.objs.size ≠ l2 := ⟨Nat.ne_of_gt lz, Nat.ne_of_gt lTI, Nat.ne_of_gt lTO, Nat.ne_of_gt li1, Nat.ne_of_gt li2, Nat.ne_of_gt ll1, Nat.ne_of_gt ll2⟩
  refine ⟨⟨_, hS, rfl⟩, PySem.F.args_list_init_2 _ _, ?_⟩
  show wpAny _ _ (do let old ← Builtin.List.listItems (.ref s.heap.objs.size); Builtin.List.listUpdate (.ref s.heap.objs.size) (fun _ => #[]); letGo old.toList.reverse; Builtin.List.listExtendWith (.ref s.heap.objs.size) (.ref z) .none) _ _ _
  refine wpAny_bind ?_
  unfold Builtin.List.listItems
  refine wpAny_bind (wpAny_seqItems hS rfl (wpAny_pure ?_))
  show wpAny _ _ (updateSeq s.heap.objs.size (fun _ => #[]) >>= fun _ => letGo (#[] : Array Value).toList.reverse >>= fun _ => Builtin.List.listExtendWith (.ref s.heap.objs.size) (.ref z) .none) _ _ _
  refine wpAny_bind (wpAny_updateSeq hS rfl ?_)
  have hS₂ := Heap.get?_update_self (Obj.mapSeq (fun _ => (#[] : Array Value))) hS rfl
  generalize hh2 : (s.heap.push { cls := .type "list", data := .seq #[] }).update s.heap.objs.size (Obj.mapSeq (fun _ => (#[] : Array Value))) = h2' at hS₂ ⊢
  have oth : ∀ b o, s.heap.get? b = some o → h2'.get? b = some o := fun b o e => by
    rw [← hh2]
    exact (Heap.get?_update_other _ _ (Nat.ne_of_gt (Heap.lt_size e))).trans (Heap.get?_push_of_some _ e)
  have hsz : h2'.objs.size = s.heap.objs.size + 1 := by rw [← hh2, Heap.size_update, Heap.size_push]
  refine wpAny_bind (wpAny_letGo ?_)
  have st : LzSt z TI TO i1 i2 l1 l2 s.heap.objs.size xs ys 0 h2' := ⟨oth _ _ hTI, h1.at fun o e => oth _ o e, h2.at fun o e => oth _ o e, hl1.at fun o e => oth _ o e, hl2.at fun o e => oth _ o e, .inl ⟨oth _ _ hz, ta, tb, oth _ _ hTO⟩⟩
  refine lz_extend (s := { s with heap := h2' }) (A := A.in1) hh D nS (by rw [hsz]; exact ⟨Nat.lt_succ_of_lt lz, Nat.lt_succ_of_lt lTI, Nat.lt_succ_of_lt lTO, Nat.lt_succ_of_lt li1, Nat.lt_succ_of_lt li2⟩) st .none _ hS₂ ⟨_, oth _ _ hz, rfl⟩
    (fun {h Q} k hq => wpAny_pyIter_zip (k _ (oth _ _ hz)) hq) hnx hn fun h' tk acc c as hk hS' hl hG hacc => ?_
  dsimp only at hG
  rw [hsz] at hG
  exact ⟨rfl, hQ h' tk acc c as (fun b o q1 q2 q3 q4 e => hk b o (Nat.ne_of_lt (Heap.lt_size e)) q1 q2 q3 q4 (oth b o e)) hS' hl hG hacc⟩
end
end PySem.W
namespace L2
open PySem PySem.Spec PyProof.Rows
/-- several new objects laid and tracked at once -/
def updMany (H : Hp) (new : List (Addr × HO)) : Hp := fun b => match new.lookup b with
  | some o => some o
  | none => H b
theorem lookup_memA : ∀ {l : List (Addr × HO)} {b : Addr} {o : HO}, l.lookup b = some o → (b, o) ∈ l
  | [], _, _, h => by cases h
  | (a, u) :: r, b, o, h => by
    rw [List.lookup_cons] at h
    cases q : b == a with
    | true =>
      rw [q] at h
      have e : b = a := eq_of_beq q
      subst e
      cases h
      exact List.mem_cons_self
    | false =>
      rw [q] at h
      exact List.mem_cons_of_mem _ (lookup_memA h)
theorem updMany_old {H : Hp} {new : List (Addr × HO)} {b : Addr} (h : b ∉ new.map (·.1)) : updMany H new b = H b := by
  have e : new.lookup b = none := by
    cases q : new.lookup b with
    | none => rfl
    | some o => exact absurd (List.mem_map.mpr ⟨(b, o), lookup_memA q, rfl⟩) h
  unfold updMany
  rw [e]
theorem updMany_mem {H : Hp} : ∀ {new : List (Addr × HO)} {b : Addr} {o : HO}, (new.map (·.1)).Nodup → (b, o) ∈ new → updMany H new b = some o
  | [], _, _, _, h => nomatch h
  | (a, u) :: r, b, o, hn, h => by
    unfold updMany
    rw [List.lookup_cons]
    rcases List.mem_cons.mp h with e | h
    · cases e
      simp
    · have hn' := List.nodup_cons.mp hn
      have ne : b ≠ a := fun z => hn'.1 (List.mem_map.mpr ⟨(b, o), h, z⟩)
      have := updMany_mem (H := H) hn'.2 h
      unfold updMany at this
      rw [show (b == a) = false from beq_eq_false_iff_ne.mpr ne]
      exact this
section
variable {X : Cx} {pins : List (Addr × Obj)} {σ : St} {H : Hp} {s : Shared} {h' : Heap}
theorem Inv.many {t' : Nat} {new : List (Addr × HO)} {ch : List Addr} (I : Inv X pins σ H s) (k : ∀ b u, b ∉ ch → s.heap.get? b = some u → h'.get? b = some u)
    (hch : ∀ b ∈ ch, FpOk X pins H b ∧ b < s.heap.objs.size) (hp : ∀ p ∈ new, s.heap.objs.size ≤ p.1) (hn : (new.map (·.1)).Nodup) (ok : ∀ p ∈ new, ObjOk X.prog X.w (updMany H new) h' p.1 p.2) : Inv X pins σ (updMany H new) { s with heap := h', toks := t' } := by
  have old : ∀ b, b < s.heap.objs.size → updMany H new b = H b := fun b hb => updMany_old fun z => by
    obtain ⟨p, hm, e⟩ := List.mem_map.mp z
    have := hp p hm
    rw [e] at this
    exact absurd (Nat.lt_of_lt_of_le hb this) (Nat.lt_irrefl _)
  have tr : ∀ b u, H b = some u → updMany H new b = some u := fun b u e => (old b (I.hok.lt e)).trans e
  have nch : ∀ b u, H b = some u → b ∉ ch := fun b u e z => by
    have := (hch b z).1.1
    rw [e] at this
    cases this
  refine I.step (g' := s.gens) (d' := s.drawn) (ch := ch) (fun b hb => ?_) (fun b o _ _ hc e _ => k b o hc e) (fun b o _ _ hc e _ => ⟨o.slots, k b o hc e⟩) (fun b o _ e n => (old b (Heap.lt_size e)).trans n) (fun b o hc e => ⟨o, k b o hc e⟩)
    (fun b xs e => tr b _ e) (fun b o u e => tr b _ e) (fun b ps e => ⟨#[], by rw [tr b _ e]; simp⟩) (fun m hm => ?_) (fun b u e => ?_) I.bare
  · obtain ⟨⟨f0, f1, f2, f3, f4, f5⟩, _⟩ := hch b hb
    exact ⟨f3, f1, f4, f5⟩
  · obtain ⟨o, es, ep, ho, r⟩ := hm
    exact ⟨o, es, ep, k _ o (fun z => (hch _ z).1.2.1 rfl) ho, r⟩
  · by_cases hb : b ∈ new.map (·.1)
    · obtain ⟨⟨a, o⟩, hm, e'⟩ := List.mem_map.mp hb
      have e' : a = b := e'
      subst e'
      have e2 := updMany_mem (H := H) hn hm
      rw [e] at e2
      cases e2
      exact ok _ hm
    · rw [updMany_old hb] at e
      refine (I.hok b u e).stay (fun c v hc q => k c v ?_ q) (fun c q => tr c _ q) fun c xs q => tr c _ q
      rcases hc with z | z
      · rw [z]; exact nch b u e
      · exact nch c _ z
end
def tLz (K : PySem.W.Frag) (t : TA) : TE := fun σ H Q => t σ H fun vs H1 => ∃ a b xs ys, vs = [.ref a, .ref b] ∧ SqL K H1 a xs ∧ SqL K H1 b ys ∧
  ∀ (H' : Hp) (p : Addr) (ts : List Addr), Same H1 H' → H1 p = none → H' p = some (.lst (ts.map V.ref)) → Paired (fun t (q : V × V) => H' t = some (.tup [q.1, q.2])) ts (xs.zip ys) → Q (.ref p) H'
theorem paired_of {α β : Type} {R : α → β → Prop} : ∀ {l : List α} {r : List β}, l.length = r.length → (∀ (j : Nat) (a : α) (b : β), l[j]? = some a → r[j]? = some b → R a b) → Paired R l r
  | [], [], _, _ => .nil
  | [], _ :: _, h, _ => by cases h
  | _ :: _, [], h, _ => by cases h
  | a :: l, b :: r, h, k => .cons (k 0 a b rfl rfl) (paired_of (by simpa using h) fun j x y hx hy => k (j + 1) x y (by simpa using hx) (by simpa using hy))
theorem pe_listZip {X : Cx} {e e2 : Expr} {ta : TA} {p0 p pos0 pos : Pos} (hc : X.calm = true) (hg0 : Gl X "list") (hm0 : X.mg "list" = none) (hg : Gl X "zip") (hm : X.mg "zip" = none) (ha : PA X [e, e2] ta)
    (hs0 : starEach [.Call (.Name "zip" p) [e, e2] [] pos] X.env = (false, eval (.Call (.Name "zip" p) [e, e2] [] pos) X.env) :: starEach [] X.env := by rfl) (hpl0 : (backTo pos0 (starEach [] X.env)).any (·.1) = false := by rfl)
    (hs : starEach [e, e2] X.env = (false, eval e X.env) :: starEach [e2] X.env := by rfl) (hpl : (backTo pos (starEach [e2] X.env)).any (·.1) = false := by rfl) :
    PE X (.Call (.Name "list" p0) [.Call (.Name "zip" p) [e, e2] [] pos] [] pos0) (tLz X.K ta) := by
  refine ⟨fun pins s σ H Q I h => ?_⟩
  refine wpAny_Call_Name_kw (ld_blt I hg0 hm0 PyProof.Rows.boot_list ?_ (by decide) (by decide))
  refine PyProof.Rows.callWith_type1 ?_ hs0 hpl0
  rw [hs0]
  show wpAny _ _ (spliced ((false, eval (.Call (.Name "zip" p) [e, e2] [] pos) X.env) :: backTo pos0 (starEach [] X.env))) _ _ s
  refine Calls.spliced_cons ?_
  refine Call_ (ld_blt I hg hm PyProof.Rows.boot_zip (PyProof.Rows.callWith_type1 (thn (ha.run pos pins s σ H _ I h) fun us s1 ⟨vs, H1, I1, r1, q1⟩ => ?_) hs hpl))
  obtain ⟨a, b, xs, ys, ex, hqx, hqy, q⟩ := q1
  subst ex
  cases r1 with
  | cons r rr =>
    cases rr with
    | cons r' rr =>
      cases rr
      cases r
      cases r'
      obtain ⟨its, rv, p1, z1⟩ := I1.list hqx
      obtain ⟨its2, rv2, p2, z2⟩ := I1.list hqy
      have la : a < s1.heap.objs.size := p1.lt
      have lb : b < s1.heap.objs.size := p2.lt
      have e1 := rv.length
      have e2' := rv2.length
      refine call_zip_2 p1.isList p2.isList fun h' hz hTI hTO h1 h2 hsz hk => ?_
      refine Calls.spliced_nil ?_
      have I2 : Inv X pins σ H1 { s1 with heap := h' } := I1.kept (t' := s1.toks) hk
      have fp : ∀ c, s1.heap.objs.size ≤ c → FpOk X pins H1 c := fun c hc => I1.fpOk hc (I1.hok.fresh hc)
      refine PySem.W.lz_call (n := min its.toArray.size its2.toArray.size) (s := { s1 with heap := h' }) (I.ok.hd hc) (PySem.W.ktu_apart s1.heap.objs.size a b la lb) hz hTI ⟨_, _, hTO⟩ h1 h2 (p1.isList.at fun o e => hk _ o e) (p2.isList.at fun o e => hk _ o e) rfl
        (by rw [List.size_toArray, List.size_toArray]; omega) fun h2' tk acc c as k2 hS hl hG hacc => ?_
      dsimp only at k2 hS hG ⊢
      have hzip : (xs.zip ys).length = as.length := by rw [hl, List.length_zip, List.size_toArray, List.size_toArray]; omega
      have hn : ((h'.objs.size, HO.lst (as.map V.ref)) :: as.zip ((xs.zip ys).map fun q => HO.tup [q.1, q.2])).map (·.1) = h'.objs.size :: as := by
        rw [List.map_cons, List.map_fst_zip (by rw [List.length_map]; omega)]
      have new_lo : ∀ x ∈ as, h'.objs.size + 1 ≤ x := fun x hx => hG.above x hx
      have hnd : (h'.objs.size :: as).Nodup := by
        refine List.nodup_cons.mpr ⟨fun z => ?_, hG.rise.imp fun h => Nat.ne_of_lt h⟩
        have := new_lo _ z
        exact absurd this (Nat.not_succ_le_self _)
      have valT : ∀ (j : Nat) (t : Addr) (q : V × V), as[j]? = some t → (xs.zip ys)[j]? = some q → ∃ us : List Value, Vals [q.1, q.2] us ∧ IsTup h2' t us.toArray := fun j t q ht hq => by
        obtain ⟨x, y, hx, hy, et⟩ := hG.pairs j t ht
        rw [List.getElem?_zip_eq_some] at hq
        obtain ⟨u1, hu1, ru1⟩ := rv.get hq.1
        obtain ⟨u2, hu2, ru2⟩ := rv2.get hq.2
        have hx' : its[j]? = some x := by simpa using hx
        have hy' : its2[j]? = some y := by simpa using hy
        rw [hu1] at hx'
        rw [hu2] at hy'
        cases hx'
        cases hy'
        exact ⟨[_, _], .cons ru1 (.cons ru2 .nil), _, et, rfl, _, rfl⟩
      have I3 : Inv X pins σ (updMany H1 ((h'.objs.size, HO.lst (as.map V.ref)) :: as.zip ((xs.zip ys).map fun q => HO.tup [q.1, q.2]))) { s1 with heap := h2', toks := tk } := by
        have := Inv.many (h' := h2') (t' := tk) (new := (h'.objs.size, HO.lst (as.map V.ref)) :: as.zip ((xs.zip ys).map fun q => HO.tup [q.1, q.2])) (ch := [s1.heap.objs.size + 4, s1.heap.objs.size + 3, s1.heap.objs.size, s1.heap.objs.size + 1]) I2
          (fun b u hb e => k2 b u (fun z => hb (by simp [z])) (fun z => hb (by simp [z])) (fun z => hb (by simp [z])) (fun z => hb (by simp [z])) e) (fun b hb => ?_) (fun p hp => ?_) (by rw [hn]; exact hnd) (fun p hp => ?_)
        · exact this
        · have hb : b = s1.heap.objs.size + 4 ∨ b = s1.heap.objs.size + 3 ∨ b = s1.heap.objs.size ∨ b = s1.heap.objs.size + 1 := by simpa using hb
          have hle : s1.heap.objs.size ≤ b ∧ b < h'.objs.size := by
            rw [hsz]
            rcases hb with z | z | z | z <;> (subst z; exact ⟨by first | exact Nat.le_refl _ | exact Nat.le_add_right _ _, by first | exact Nat.add_lt_add_left (by decide) _ | exact Nat.lt_add_of_pos_right (by decide)⟩)
          exact ⟨fp b hle.1, hle.2⟩
        · have : p.1 ∈ h'.objs.size :: as := by rw [← hn]; exact List.mem_map.mpr ⟨p, hp, rfl⟩
          rcases List.mem_cons.mp this with z | z
          · rw [z]; exact Nat.le_refl _
          · exact Nat.le_of_succ_le (new_lo _ z)
        · rcases List.mem_cons.mp hp with z | z
          · subst z
            refine ⟨?_, as.map Value.ref, c, ?_, ?_⟩
            · rw [List.length_map, hl, List.size_toArray, List.size_toArray]; omega
            · have : ∀ l : List Addr, Vals (l.map V.ref) (l.map Value.ref) := fun l => by
                induction l with
                | nil => exact .nil
                | cons a r ih => exact .cons rfl ih
              exact this as
            · rw [hS, ← hacc]
          · obtain ⟨j, hj⟩ := List.mem_iff_getElem?.mp z
            obtain ⟨t, o⟩ := p
            rw [List.getElem?_zip_eq_some, List.getElem?_map] at hj
            cases hq : (xs.zip ys)[j]? with
            | none => rw [hq] at hj; cases hj.2
            | some qq =>
              rw [hq] at hj
              obtain ⟨ht, ho⟩ := hj
              have ho : HO.tup [qq.1, qq.2] = o := Option.some.inj ho
              subst ho
              obtain ⟨us, r3, tt⟩ := valT j t qq ht hq
              exact ⟨by show 2 ≤ sizeLine; decide, us, r3, tt⟩
      have hfresh : H1 h'.objs.size = none := I2.hok.fresh (Nat.le_refl _)
      refine ⟨.ref h'.objs.size, _, I3, rfl, q _ h'.objs.size as (fun b o e => ?_) hfresh ?_ ?_⟩
      · rw [updMany_old]
        · exact e
        · rw [hn]
          intro z
          have lt : b < h'.objs.size := I2.hok.lt e
          rcases List.mem_cons.mp z with z | z
          · exact absurd lt (by rw [z]; exact Nat.lt_irrefl _)
          · exact absurd (Nat.lt_of_lt_of_le lt (Nat.le_of_succ_le (new_lo _ z))) (Nat.lt_irrefl _)
      · exact updMany_mem (by rw [hn]; exact hnd) List.mem_cons_self
      · refine paired_of hzip.symm fun j t qq ht hq => updMany_mem (by rw [hn]; exact hnd) (List.mem_cons_of_mem _ (List.mem_iff_getElem?.mpr ⟨j, ?_⟩))
        rw [List.getElem?_zip_eq_some, List.getElem?_map, hq]
        exact ⟨ht, rfl⟩
end L2
end

/-! text R3 -/
section
set_option Elab.async false
set_option linter.all false
set_option maxRecDepth 100000
set_option maxHeartbeats 4000000
/-! sorted(xs, key=lambda piece: piece[0]) of a list of tuples whose first items are whole numbers -/
namespace LamX
open PySem PySem.Spec PyProof.Rows L2
def keyArgs (pa : Pos) : Arguments := { posonlyargs := [], args := [{ arg := "piece", annotation := none, pos := pa }], vararg := none, kwonlyargs := [], kw_defaults := [], kwarg := none, defaults := [] }
def keyScope : Scope := { kind := .function, names := [(PySem.Str.ofString "piece", .local)], isGenerator := false, isCoroutine := false, more := [] }
def tSortK (K : PySem.W.Frag) (P : Addr) (q : Str) (te : TE) : TE := fun σ H Q => te σ H fun x H1 => ∃ (a : Addr) (ts : List (Addr × Int)), x = .ref a ∧ SqL K H1 a (ts.map fun t => V.ref t.1) ∧ (∀ t ∈ ts, ∃ v, SqT K H1 t.1 [.int t.2, v]) ∧ TabS H1 P q ∧
  ∀ (H2 : Hp) (p : Addr), ExtN H1 H2 → TabS H2 P q → H2 p = none → Q (.ref p) (upd H2 p (.lst ((ts.mergeSort fun x y => decide (x.2 ≤ y.2)).map fun t => V.ref t.1)))
theorem ExtN.list {K : PySem.W.Frag} {H H' : Hp} {a : Addr} {xs : List V} (e : ExtN H H') (h : SqL K H a xs) : SqL K H' a xs := by
  rcases h with (h | ⟨o, h⟩) | h
  · exact .inl (.inl (e _ _ h fun ps z => by cases z))
  · exact .inl (.inr ⟨o, e _ _ h fun ps z => by cases z⟩)
  · exact .inr h
theorem ExtN.tup {K : PySem.W.Frag} {H H' : Hp} {a : Addr} {xs : List V} (e : ExtN H H') (h : SqT K H a xs) : SqT K H' a xs := by
  rcases h with (h | ⟨o, h⟩) | h
  · exact .inl (.inl (e _ _ h fun ps z => by cases z))
  · exact .inl (.inr ⟨o, e _ _ h fun ps z => by cases z⟩)
  · exact .inr h
theorem each_of {ts : List (Addr × Int)} : ∀ {its : List Value}, Vals (ts.map fun t => V.ref t.1) its → PySem.W.EachIs (fun (v : Value) (t : Addr × Int) => v = .ref t.1) its ts := by
  induction ts with
  | nil => intro its r; rw [List.map_nil] at r; cases r; exact .nil
  | cons t r ih =>
    intro its q
    rw [List.map_cons] at q
    cases q with
    | cons q1 q2 => exact .cons q1 (ih q2)
theorem vals_each {ts : List (Addr × Int)} : ∀ {its : List Value}, PySem.W.EachIs (fun (v : Value) (t : Addr × Int) => v = .ref t.1) its ts → Vals (ts.map fun t => V.ref t.1) its := by
  induction ts with
  | nil => intro its r; cases r; exact .nil
  | cons t r ih =>
    intro its q
    cases q with
    | cons q1 q2 => exact .cons q1 (ih q2)
theorem key_turn {prog : Program} {w : World} {A : Around} {s : Shared} {f c' : Addr} {q : Str} {pa p1 p2 p3 : Pos} {j : Nat} {pm ctv : Value} {t : Addr} {n : Int} {y : Value} {tn : Tok} (hroom : A.depth < recursionLimit) (hlim : s.heap.NoLimit)
    (hf : s.heap.get? f = some (PySem.W.kla_obj "<lambda>" q (keyArgs pa) (.Subscript (.Name "piece" p1) (.Constant (.int 0) j p2) p3) keyScope [] pm c' ctv)) (hcd : s.heap.CodeRec (.ref c') q) (ht : IsTup s.heap t #[.int n tn, y]) :
    wpAny (model prog w) A (call (.ref f) [.ref t]) (PySem.W.KeyPure (.int n) s) (fun _ _ => False) s := by
  refine wpAny_call (PySem.W.kla_callFunE hroom hf rfl rfl rfl rfl hcd ?_)
  have hbind : bindArgs (PySem.W.kla_fn "<lambda>" q (keyArgs pa) (.Subscript (.Name "piece" p1) (.Constant (.int 0) j p2) p3) keyScope [] pm (.ref c') ctv) ⟨[.ref t], []⟩ = pure [((PySem.Str.ofString "piece" : Str), Value.ref t)] := rfl
  rw [hbind]
  refine wpAny_pure (wpAny_newFunctionEnv (fun x hx => ?_) (fun x hx => ?_) (fun h₁ hns hsb => ⟨hlim.fresh _ hsb, ?_⟩) rfl)
  · have : x = (PySem.Str.ofString "piece", NameKind.local) := by simpa [keyScope] using hx
    rw [this]
    decide
  · have : x = (("piece" : Str), Value.ref t) := by simpa using hx
    rw [this]
    rfl
  · have kp : ∀ b o, s.heap.get? b = some o → h₁.get? b = some o := fun b o e => hsb.extBut b o (Nat.ne_of_lt (Heap.lt_size e)) (Heap.get?_push_of_some _ e)
    have ht1 : IsTup h₁ t #[.int n tn, y] := let ⟨o, ho, r⟩ := ht; ⟨o, kp _ _ ho, r⟩
    refine PySem.W.kla_codeExpr ?_
    refine Subscript_ (wpAny_Name (wpAny_loadName_local rfl rfl hns rfl ?_) (by decide))
    refine wpAny_Constant_int ?_
    refine subscriptTail_builtinR (x := .int n tn) ht1.typeIs slot_tuple_getitem.lookup
      (getItem_tuple (j := 0) (Q := fun r s' => r = .int n tn ∧ PySem.W.KeyPure (.int n) s r s') ht1 (by decide) (by decide) (by rfl) (by rfl) ⟨rfl, ?_⟩) (by rfl)
    exact ⟨_, _, rfl, kp, Reads.int _ _⟩
theorem pe_sortLam {X : Cx} {e : Expr} {te : TE} {c P : Addr} {p pos kp lpos pa p1 p2 p3 : Pos} {j k : Nat} (hc : X.calm = true) (hg : Gl X "sorted") (hm : X.mg "sorted" = none) (TB : TabB X.base X.mg c P) (hcode : X.env.code = .ref c) (hr : Room (k + 1) X.A) (he : PE X e te)
    (hst : backTo pos (starEach [e] X.env) = (false, eval e X.env) :: backTo pos (starEach [] X.env) := by rfl) :
    PE X (.Call (.Name "sorted" p) [e] [⟨some "key", .Lambda (keyArgs pa) (.Subscript (.Name "piece" p1) (.Constant (.int 0) j p2) p3) keyScope lpos, kp⟩] pos) (tSortK X.K P (X.env.qual ++ "<lambda>") te) := by
  refine ⟨fun pins s σ H Q I h => ?_⟩
  refine wpAny_Call_Name_kw (ld_blt I hg hm PyProof.Rows.boot_sorted ?_ (by decide) (by decide))
  refine PyProof.Rows.callWith_kw ?_ hst (by rw [hst]; rfl) rfl rfl
  rw [hst]
  refine Calls.spliced_cons (thn (he.run pins s σ H _ I h) fun u s1 ⟨x, H1, I1, r1, q1⟩ => Calls.spliced_nil ?_)
  obtain ⟨a, ts, ex, hl, hts, tb, q⟩ := q1
  subst ex
  cases r1
  show wpAny _ _ (evalAll [do let v ← eval (.Lambda (keyArgs pa) (.Subscript (.Name "piece" p1) (.Constant (.int 0) j p2) p3) keyScope lpos) X.env; standAt pos; pure v]) _ _ s1
  refine wpAny_evalAll_cons (wpAny_bind ?_)
  refine lam_make2 (T := [(P, X.env.qual ++ "<lambda>")]) I1 TB hcode List.mem_cons_self (fun p hp e => by rw [List.mem_singleton.mp hp]) (fun p hp => by rw [List.mem_singleton.mp hp]; exact tb) rfl (fun y hy e => by
    have : y = (PySem.Str.ofString "piece", NameKind.local) := by simpa [keyScope] using hy
    rw [this] at e
    cases e) fun f c' pm ctv H2 s2 I2 eN T2 hf hfn hfr hco => wpAny_bind (wpAny_standAt (wpAny_pure (wpAny_evalAll_nil ?_)))
  show wpAny _ _ (call (.builtin "sorted") [.ref a] [(("key" : Str), .ref f)]) _ _ s2
  have hl2 := eN.list hl
  obtain ⟨its, rv, pl, hz⟩ := I2.list hl2
  have hlen := rv.length
  rw [List.length_map] at hlen hz
  obtain ⟨⟨oc, vs, t, hoc, hdc, hvc⟩, _, _⟩ := I2.hok c' _ hco
  have hcd : s2.heap.CodeRec (.ref c') (X.env.qual ++ "<lambda>") := ⟨c', oc, vs, t, rfl, hoc, hdc, hvc⟩
  refine PySem.W.sorted_key_data (b := false) (f := .ref f) (bs := ts) (fun t : Addr × Int => PyData.int t.2) pl.isList (each_of rv) (fun d hd d' hd' => ?_) (.inr fun d hd => ?_) hz (fun x hx => ?_) (PyProof.Rows.ksk_s1 _ _) (fun _ => PyProof.Rows.ksk_l1 _ _) (fun a => PyProof.Rows.ksk_t1 f a)
    (fun v x hv hx h tk kpp => ?_) fun out cc h' tk kpp hfr hS hol hE => ?_
  · obtain ⟨t1, _, rfl⟩ := List.mem_map.mp hd
    obtain ⟨t2, _, rfl⟩ := List.mem_map.mp hd'
    rfl
  · obtain ⟨t1, _, rfl⟩ := List.mem_map.mp hd
    exact ⟨fun z => (by cases z), fun xs z => (by cases z)⟩
  · have := hr.units
    show X.A.units + 2 + 0 < cLine
    omega
  · rw [hv]
    obtain ⟨v2, hq⟩ := hts x hx
    obtain ⟨us, r2, tt, _⟩ := I2.tuple (eN.tup hq)
    cases r2 with
    | cons ra rb =>
      obtain ⟨tn, rfl⟩ := ra
      cases rb with
      | cons rb1 rb2 =>
        cases rb2
        obtain ⟨o, ho, rr⟩ := tt
        refine key_turn (s := { s2 with heap := h, toks := tk }) ?_ (I2.nolimit.keeps kpp) (kpp _ _ hf) (hcd.keeps kpp) ⟨o, kpp _ _ ho, rr⟩
        exact hr.depth
  · rw [PySem.W.dataLe_int (fun t : Addr × Int => t.2)] at hE
    refine ⟨.ref (s2.heap.objs.size + 1), _, I2.laid (t' := tk) (o := .lst ((ts.mergeSort fun x y => decide (x.2 ≤ y.2)).map fun t => V.ref t.1)) kpp (Nat.le_succ _) ⟨?_, out, cc, vals_each hE, hS⟩, rfl, q H2 (s2.heap.objs.size + 1) eN (T2 _ List.mem_cons_self) (I2.hok.fresh (Nat.le_succ _))⟩
    rw [List.length_map, List.length_mergeSort]
    exact hz
end LamX
end

/-! text R4 -/
section
set_option Elab.async false
set_option linter.all false
set_option maxRecDepth 100000
set_option maxHeartbeats 4000000
/-! sorted(set(xs)) of a list of whole numbers -/
namespace L2
open PySem PySem.Spec PyProof.Rows
section
variable {P : Program} {w : World} {A : Around} {E : Value → Shared → Prop} {s : Shared}
set_option maxRecDepth 100000 in
set_option maxHeartbeats 3200000 in
theorem call_set_listI {l : Addr} {items : Array Value} (ns : List Int) {Q : Value → Shared → Prop} (hh : A.handled = none) (hl : s.heap.IsList l items) (hit : IntsAre items.toList ns) (hb : ns.length + 1 < scanBound)
    (h : ∀ (h' : Heap) (tk c : Nat), SetR w h' s.heap.objs.size (fun j => decide (j ∈ ns)) c → c ≤ ns.length → (∀ b o, s.heap.get? b = some o → h'.get? b = some o) → Q (.ref s.heap.objs.size) { s with heap := h', toks := tk }) :
    wpAny (model P w) A (call (.type "set") [.ref l]) Q E s := by
  have hisz : items.size = ns.length := by
    have q := IntsAre.length hit
    rw [Array.length_toList] at q
    exact q
  obtain ⟨c, tl, hmro⟩ := F.called_set.mro
  have hmade := F.called_set.made
  have hsub := F.called_set.sub
  refine wpAny_call (codeAny_of_tree ?_)
  show wpAny _ _ (callAny (.type "set") _) _ _ _
  refine wpAny_pure ⟨Code.quiet_builtin _ (by decide +kernel), codeAny_builtin F.entry_type_call ?_⟩
  rw [Around.under_plain (weight_type_call_type "set" [.ref l] []) rfl]
  have h1 := F.called_set.notType
  have h2 := F.called_set.canCreate
  have hct := F.typeCall_set_1 (.ref l)
  repeat (any_goals (first | assumption | wp_step))

  refine codeAny_mono (code_set_led1 (.ref l) (E := E) (Q₁ := fun obj s₁ => obj = .ref s.heap.objs.size ∧ s₁ = { s with heap := s.heap.push { cls := .type "set", dict := none, data := .set #[] 0 (.fresh 0 0 (!w.params.followText "set-order")) } }) ⟨rfl, rfl⟩) fun r s₁ hr => ?_
  cases r with
  | error e => exact hr
  | ok fl =>
    cases fl with
    | ret obj =>
      obtain ⟨rfl, rfl⟩ := hr
      have hS : (s.heap.push { cls := .type "set", dict := none, data := .set #[] 0 (.fresh 0 0 (!w.params.followText "set-order")) }).get? s.heap.objs.size = some { cls := .type "set", dict := none, data := .set #[] 0 (.fresh 0 0 (!w.params.followText "set-order")) } := Heap.get?_push_size _ rfl
      have hT : Shared.TypeIs { s with heap := s.heap.push { cls := .type "set", dict := none, data := .set #[] 0 (.fresh 0 0 (!w.params.followText "set-order")) } } (.ref s.heap.objs.size) "set" := ⟨_, hS, rfl⟩
      have hli := F.called_set.init.lookup
      have hbi := F.called_set.init.bind (.ref s.heap.objs.size)
      repeat (any_goals (first | assumption | wp_step))

      refine codeAny_mono (codeAny_call_builtin (R := wants (fun r s₂ => r = .none ∧ ∃ h' tk c, s₂ = { s with heap := h', toks := tk } ∧ SetR w h' s.heap.objs.size (fun j => decide (j ∈ ns)) c ∧ c ≤ ns.length ∧
          (∀ b o, s.heap.get? b = some o → h'.get? b = some o)) E) F.called_set.init.plain F.entry_set_init (check_set_init_1 hT ?_)) fun r₂ s₂ hr₂ => ?_
      · obtain ⟨ol, hol, hcl, nl, hdl⟩ := hl
        obtain ⟨ocls, odict, odata, oslots⟩ := ol
        simp only at hcl hdl
        subst hcl; subst hdl
        have hol' : (s.heap.push { cls := .type "set", dict := none, data := .set #[] 0 (.fresh 0 0 (!w.params.followText "set-order")) }).get? l = some { cls := .type "list", dict := odict, data := .seq items nl, slots := oslots } := Heap.get?_push_of_some _ hol
        have hsls := F.sub_list_set
        have hslf := F.sub_list_frozenset
        have hne : (Value.type "list" == Value.type "dict") = false := by decide
        have hl1 : (s.heap.push { cls := .type "set", dict := none, data := .set #[] 0 (.fresh 0 0 (!w.params.followText "set-order")) }).IsList l items := ⟨_, hol', rfl, nl, rfl⟩
        unfold Builtin.«set.__init__» noKeywords Builtin.Frozenset.updateFrom
        generalize hPI : pyIter = PI
        wp_walk
        subst hPI

        refine wpAny_pyIter_list hl1 ?_
        refine wpAny_bind (wpAny_runValue ?_)
        have hlS : l < s.heap.objs.size := Heap.lt_size hol
        have hh3 : A.in1.in1.in1.handled = none := by simp [hh]
        have hz1 : (s.heap.push { cls := .type "set", dict := none, data := .set #[] 0 (.fresh 0 0 (!w.params.followText "set-order")) }).objs.size = s.heap.objs.size + 1 := Heap.size_push ..
        have hneI : l ≠ (s.heap.push { cls := .type "set", dict := none, data := .set #[] 0 (.fresh 0 0 (!w.params.followText "set-order")) }).objs.size := by
          rw [Heap.size_push]; exact Nat.ne_of_lt (Nat.lt_succ_of_lt hlS)
        have hSf : s.heap.objs.size ∉ [(s.heap.push { cls := .type "set", dict := none, data := .set #[] 0 (.fresh 0 0 (!w.params.followText "set-order")) }).objs.size, l] := by
          rw [Heap.size_push]; simp only [List.mem_cons, List.mem_singleton, List.not_mem_nil, or_false, not_or]
          exact ⟨Nat.ne_of_lt (Nat.lt_succ_self _), Nat.ne_of_gt hlS⟩
        have hval : ∀ (i : Nat) (v : Value), items[i]? = some v → ∃ k t, ns[i]? = some k ∧ v = .int k t := fun i v hv => by
          have hi : i < ns.length := by rw [← hisz]; exact (Array.getElem?_eq_some_iff.mp hv).1
          obtain ⟨t, e⟩ := PyProof.Rows.IntsAre.int_at hit i v (by rw [Array.getElem?_toList]; exact hv)
          refine ⟨ns[i], t, List.getElem?_eq_getElem hi, ?_⟩
          rw [e, List.getD_eq_getElem?_getD, List.getElem?_eq_getElem hi] <;> rfl
        refine set_update_ints ((Walks.list hh3 _ l hneI items).toS) s.heap.objs.size
          hSf ns hisz hb hval (items.size - 0) 0 _ (by omega) (Nat.zero_le _)
          ⟨⟨_, Heap.get?_push_size _ rfl, rfl, rfl⟩, (hl1.push _)⟩ ?hS0 ?hR
        case hS0 =>
          have hget : ((s.heap.push { cls := .type "set", dict := none, data := .set #[] 0 (.fresh 0 0 (!w.params.followText "set-order")) }).push { cls := .type "list_iterator", data := .fields #[.ref l, .int 0 0] }).get? s.heap.objs.size
              = some { cls := .type "set", dict := none, data := .set #[] 0 (.fresh 0 0 (!w.params.followText "set-order")) } := Heap.get?_push_of_some _ hS
          exact ⟨0, Nat.le_refl 0, setR_new_at hget⟩
        case hR =>
          intro s' c' hm hc' hS'
          obtain ⟨h', g2, d', tk', os'⟩ := s'
          have eg : g2 = s.gens := hm.gens
          have ed : d' = s.drawn := hm.drawn
          have eo : os' = s.os := hm.os
          subst eg; subst ed; subst eo
          show wpAny _ _ _ _ _ _
          refine wpAny_pure ?_
          show wpAny _ _ (ret Value.none) _ _ _
          rw [hisz] at hc'
          refine wpAny_pure ⟨rfl, h', tk', c', rfl, hS', hc', fun b o e => ?_⟩
          have hb0 : b < s.heap.objs.size := Heap.lt_size e
          have hb1 : b ≠ s.heap.objs.size := Nat.ne_of_lt hb0
          have hb2 : b ≠ (s.heap.push { cls := .type "set", dict := none, data := .set #[] 0 (.fresh 0 0 (!w.params.followText "set-order")) }).objs.size := by
            rw [Heap.size_push]; exact Nat.ne_of_lt (Nat.lt_succ_of_lt hb0)
          exact hm.heap b o (by simp only [List.mem_cons, List.mem_singleton, List.not_mem_nil, or_false, not_or]; exact ⟨hb1, hb2⟩) (Heap.get?_push_of_some _ (Heap.get?_push_of_some _ e))

      · cases r₂ with
        | error e => exact hr₂
        | ok fl₂ =>
          cases fl₂ with
          | ret r =>
            obtain ⟨rfl, h', tk, c', rfl, hS', hc', hk'⟩ := hr₂
            repeat (any_goals (first | assumption | wp_step))
            exact h _ _ _ hS' hc' hk'
          | _ => exact hr₂.elim
    | _ => exact hr.elim


theorem sorted_setN {a : Addr} {S : Int → Bool} {n : Nat} {Q : Value → Shared → Prop} (R : SetR w s.heap a S n) (hh : A.handled = none)
    (hQ : ∀ s' p (out : List Value) (c : Nat) (ns : List Int), (∀ b o, s.heap.get? b = some o → s'.heap.get? b = some o) → s'.gens = s.gens → s'.os = s.os → s.heap.objs.size ≤ p →
      s'.heap.get? p = some (seqObj "list" out.toArray c) → IntsAre out ns → ns.Pairwise (· < ·) → (∀ k, k ∈ ns ↔ S k = true) → ns.length = n → Q (.ref p) s') :
    wpAny (model P w) A (call (.builtin "sorted") [.ref a]) Q E s := by
  obtain ⟨o, es, ep, t, ho, hex, hd, g, nd, hm, hb, hf, hn, hr, hl⟩ := R
  refine Calls.call_function_entry kind_sorted plain_sorted entry_sorted (args_sorted1 _) ?_
  unfold Builtin.«sorted»
  refine wpAny_bind (m := checkCount "sorted" 1 1 _) (wpAny_pure ?_)
  refine wpAny_bind (collect_set (A := A.in1) hh ⟨o, ho, hex.1, hd⟩ hf hb hr hl fun s1 vs k1 hz g1 o1 pm => ?_)
  have hvl : vs.length = n := by rw [pm.length_eq, List.length_map, Array.length_toList]; exact hn
  have hI : IntsAre vs (vs.map Builtin.Re.reRawOf) := ints_of vs fun v hv => by
    obtain ⟨e, he, q⟩ := List.mem_map.mp (pm.mem_iff.mp hv)
    obtain ⟨k, tk, h1, _⟩ := g e he
    exact ⟨k, tk, by rw [← q]; exact h1⟩
  have pk : (vs.map Builtin.Re.reRawOf).Perm (es.toList.map keyOf) := by
    have q := pm.map Builtin.Re.reRawOf
    rw [List.map_map] at q
    exact q
  have hvz : vs.length ≤ sizeLine := by rw [hvl, ← hn]; exact fits_of_scanBound hb
  refine wpAny_bind (wpAny_newList ?_ hvz)
  have hoL : (s1.heap.push (seqObj "list" vs.toArray 0)).get? s1.heap.objs.size = some (seqObj "list" vs.toArray 0) := Heap.get?_push_size _ rfl
  refine wpAny_bind (wpAny_holding (wpAny_call_entry slot_list_sort ⟨_, hoL, rfl⟩ entry_list_sort (SrtO.list_sort_ord SrtO.swo_int hoL hvz (fun h2 => SrtO.ints_sortable hI h2) fun out a1 a2 => ⟨_, rfl, ?_⟩) (args_list_sort _)))
  obtain ⟨b1, b2, b3⟩ := SrtO.ints_out hI a1 a2
  obtain ⟨c, hc⟩ := sortedHeap_at (vs := vs) (out := out.toArray) hoL
  have pn := b2.trans pk
  refine wpAny_pure ⟨_, rfl, hQ _ s1.heap.objs.size out c _ (fun b u e => ?_) g1 o1 hz hc b1 (lt_of_le_nodup _ b3 (pn.nodup_iff.mpr nd)) (fun k => by rw [pn.mem_iff, ← hm k]) ?_⟩
  · have q := k1 b u e
    have hlt := Heap.lt_size q
    show (sortedHeap (s1.heap.push (seqObj "list" vs.toArray 0)) s1.heap.objs.size vs out.toArray).get? b = some u
    rw [sortedHeap_old (Nat.ne_of_lt hlt) (by rw [size_push']; exact Nat.lt_succ_of_lt hlt)]
    exact Heap.get?_push_of_some _ q
  · rw [pn.length_eq, List.length_map, Array.length_toList]; exact hn
end
/-- set(xs) -/
def rSetMk (K : PySem.W.Frag) (w : World) : List V → Hp → VK → Prop := fun vs H Q => ∃ (a : Addr) (ns : List Int), vs = [V.ref a] ∧ SqL K H a (ns.map V.int) ∧ ns.length + 1 < scanBound ∧
  ∀ (p : Addr) (c : Nat), c ≤ ns.length → H p = none → Q (.ref p) (upd H p (SetO w p (fun j => decide (j ∈ ns)) c))
theorem cr_setL {X : Cx} (hc : X.calm = true) : CallR X (.type "set") (rSetMk X.K X.w) := by
  intro pins s σ H vs us Q I r h
  obtain ⟨a, ns, rfl, ha, hb, q⟩ := h
  rw [Vals.ref1 r]
  obtain ⟨its, rv, pl, hz⟩ := I.list ha
  refine call_set_listI ns (I.ok.hd hc) pl.isList (by simpa using rv.ints) hb fun h' tk c R hcl kp => ?_
  exact ⟨.ref s.heap.objs.size, _, I.laid (t' := tk) kp (Nat.le_refl _) (setO_new R), rfl, q _ c hcl (I.hok.fresh (Nat.le_refl _))⟩
def rSortedSetN (w : World) : List V → Hp → VK → Prop := fun vs H Q => ∃ (a : Addr) (S : Int → Bool) (n : Nat), vs = [V.ref a] ∧ H a = some (SetO w a S n) ∧ n ≤ sizeLine ∧
  ∀ (ns : List Int) (p : Addr), ns.Pairwise (· < ·) → (∀ k : Int, k ∈ ns ↔ S k = true) → ns.length = n → H p = none → Q (.ref p) (upd H p (.lst (ns.map V.int)))
theorem cr_sortedSetN {X : Cx} (hc : X.calm = true) : CallR X (.builtin "sorted") (rSortedSetN X.w) := by
  intro pins s σ H vs us Q I r h
  obtain ⟨a, S, n, rfl, ha, hzn, q⟩ := h
  have R := setO_get I ha
  rw [Vals.ref1 r]
  refine sorted_setN R (I.ok.hd hc) fun s' p out c ns k g o hp hg hi hs hm hl => ?_
  have hlen : (ns.map V.int).length ≤ sizeLine := by rw [List.length_map, hl]; exact hzn
  have hn : H p = none := I.hok.fresh hp
  have J : Inv X pins σ (upd H p (.lst (ns.map V.int))) { s with heap := s'.heap, gens := s'.gens, drawn := s'.drawn, toks := s'.toks } :=
    I.call (ch := []) (Un.laid k hp hn) (I.hok.laid k hp ⟨hlen, out, c, vals_of_ints hi, hg⟩) (by rw [g]; exact I.bare) (fun _ z => nomatch z)
  have e : s' = { s with heap := s'.heap, gens := s'.gens, drawn := s'.drawn, toks := s'.toks } := by
    cases s'
    cases s
    cases o
    rfl
  rw [e]
  exact ⟨.ref p, _, J, rfl, q ns p hs hm hl hn⟩
end L2
end

/-! text R5 -/
section
set_option Elab.async false
set_option linter.all false
set_option maxRecDepth 100000
set_option maxHeartbeats 4000000
/-! a list comprehension whose element may raise -/
namespace L2
open PySem PySem.Spec PyProof.Rows
/-- the block with a wish of its own about exceptions -/
abbrev Cx.blkE (X : Cx) (s : Shared) (H : Hp) (scope : Scope) (cenv : Env) (fp : List Addr) (xe : Value → Shared → Prop) : Cx := (X.blk s H scope cenv fp).wish xe
section
variable {X : Cx} {pins : List (Addr × Obj)} {σ : St} {H3 : Hp} {s3 : Shared} {scope : Scope} {ce : Env} {fp : List Addr} {W : WX}
/-- what a call in the element lets out is out of the comprehension in the def's own air -/
theorem blk_out {xe : Value → Shared → Prop} {pins' : List (Addr × Obj)} {σ' : St} {H' : Hp} {s' s'' : Shared} {e : Value} (hs : X.stack = X.env :: X.outer) (hf : X.env.frame = some X.env.locals) (tk : L2N.Takes X W) (I3 : Inv X pins σ H3 s3)
    (hfp : ∀ b ∈ fp, FpOk X pins H3 b ∧ b < s3.heap.objs.size) (hL : ce.locals = s3.heap.objs.size) (hcf : ce.frame = X.env.frame) (I' : Inv (X.blkE s3 H3 scope ce fp xe) pins' σ' H' s')
    (cx : L2N.CX X.prog X.w X.stack H' s' (fun cls d H2 => W cls d σ H2) e s'') : notedBy (model X.prog X.w) X.A ce (CompFails (model X.prog X.w) X.A X.xe ce) e s'' := by
  obtain ⟨a, B, H2, cls, d, rfl, fl, hok, ub, na, os, ag, w⟩ := cx
  have hfr : X.A.frames = some (X.env :: X.outer) := by rw [I3.ok.frames, hs]
  have bs : Un (frs X.stack) fp H3 H' s3.heap s'.heap := I'.base
  have hC' : H' ce.locals = none := I'.free
  obtain ⟨m, hn, _⟩ := I'.loc
  have hn : s'.heap.Ns ce.locals m := hn
  have nC : ce.locals ∉ frs X.stack := fun z => by
    rcases List.mem_cons.mp (I3.stkSub _ z) with e | e
    · have := I3.lt
      rw [← e, hL] at this
      exact Nat.lt_irrefl _ this
    · exact I3.nofs (Nat.le_of_eq hL.symm) e
  show wpAny _ _ (noteFrame (.ref a) ce) _ _ s''
  rw [noteFrame_env _ hcf]
  rw [hs] at fl
  refine PXN.looks_onZ L2N.Zn.steady hfr hf fl fun h3 hh up3 => ?_
  -- the block's names stand
  obtain ⟨oC, esC, epC, eC, dC, rC⟩ := id hn
  have eCB : B.get? ce.locals = some oC := ub.keep _ _ eC hC' nC
  have hn3 : h3.Ns ce.locals m := ⟨oC, esC, epC, hh.1 _ _ eCB, dC, rC⟩
  refine ⟨m, hn3, fun h4 m4 hn4 sb => ?_⟩
  -- the ground without the block's names
  have B2 : ∀ b o, (PySem.W.hideAll B [ce.locals]).get? b = some o → B.get? b = some o := fun b o e => PySem.W.of_hideAll _ e
  have B3 : ∀ b o, B.get? b = some o → b ≠ ce.locals → (PySem.W.hideAll B [ce.locals]).get? b = some o := fun b o e ne => PySem.W.hideAll_get _ e fun z => ne (List.mem_singleton.mp z)
  have B4 : (PySem.W.hideAll B [ce.locals]).get? ce.locals = none := PySem.W.hideAll_none _ (List.mem_singleton.mpr rfl)
  generalize PySem.W.hideAll B [ce.locals] = B' at B2 B3 B4
  obtain ⟨k1, k2, k3, oe, vs, T, oT, ts, he, hz, hd, h1, hnT, hTe, hT, hdT, h3t⟩ := hh
  have neF : ∀ {b : Addr} {o : Obj} {us : Array Value}, h3.get? b = some o → o.data = .fields us → b ≠ ce.locals := fun {b o us} e q z => by
    rw [z] at e
    obtain ⟨o2, es2, ep2, e2, d2, _⟩ := hn3
    rw [e] at e2
    cases e2
    rw [q] at d2
    cases d2
  have at4 : ∀ b, b ≠ ce.locals → h4.get? b = h3.get? b := fun b hb => sb.2 b hb
  have hB0 : ∀ b, B'.get? b = none ∨ ∃ o, B'.get? b = some o := fun b => by cases B'.get? b with | none => exact .inl rfl | some o => exact .inr ⟨o, rfl⟩
  have none_of : ∀ b, B.get? b = none → B'.get? b = none := fun b q => by
    rcases hB0 b with z | ⟨o, z⟩
    · exact z
    · rw [B2 b o z] at q; cases q
  have st4 : B'.StaysIn h4 := fun b o e => by
    have ne : b ≠ ce.locals := fun z => by rw [z, B4] at e; cases e
    rw [at4 b ne]
    exact k1 b o (B2 b o e)
  have fun4 : h4.FunFrames B' (X.env :: X.outer) := Heap.FunFrames.sameBut sb hn4 (by
    have g : ∀ (l : List Env), h3.FunFrames B l → h3.FunFrames B' l := fun l => by
      induction l with
      | nil => intro _; trivial
      | cons env r ih =>
        intro ⟨q1, ⟨L, o, q2, q3, q4⟩, q5⟩
        exact ⟨q1, ⟨L, o, q2, none_of L q3, q4⟩, ih q5⟩
    exact g _ k3)
  have held4 : HandSPX.HeldZ B' (X.env :: X.outer) a (L2N.Zn cls d) X.env.locals h4 :=
    ⟨st4, none_of a k2, fun4, oe, vs, T, oT, ts, (at4 a (neF he hd)).trans he, hz, hd, h1, none_of T hnT, hTe, (at4 T (neF hT hdT)).trans hT, hdT, h3t⟩
  unfold PySem.passOn
  refine wpAny_bind (wpAny_field (s := { s'' with heap := h4 }) held4.2.2.2.choose_spec.choose_spec.choose_spec.choose_spec.choose_spec.1 held4.2.2.2.choose_spec.choose_spec.choose_spec.choose_spec.choose_spec.2.2.1 held4.2.2.2.choose_spec.choose_spec.choose_spec.choose_spec.choose_spec.2.2.2.1 ?_)
  rw [if_neg (by simp)]
  rw [hcf, hf]
  refine wpAny_bind (HandSPX.setFlight_onZ (s := { s'' with heap := h4 }) held4 fun h5 hh5 up5 => wpAny_throw ?_)
  -- in the def's air
  refine tk _ _ ?_
  obtain ⟨G, g1, g2⟩ := restrict h5 fun b => (B'.get? b).isSome || decide (b ∈ frs X.stack)
  have st5 : B'.StaysIn h5 := hh5.1
  have gB : ∀ b o, B'.get? b = some o → G.get? b = some o := fun b o e => by
    rw [g1 b (by simp [e])]
    exact st5 b o e
  have gF : ∀ b, b ∈ frs X.stack → G.get? b = h5.get? b := fun b hb => g1 b (by simp [hb])
  have og : ∀ b o, G.get? b = some o → h5.get? b = some o ∧ ((B'.get? b).isSome = true ∨ b ∈ frs X.stack) := fun b o e => by
    cases q : ((B'.get? b).isSome || decide (b ∈ frs X.stack)) with
    | false => rw [g2 b q] at e; cases e
    | true =>
      rw [g1 b q] at e
      exact ⟨e, by simpa [Bool.or_eq_true] using q⟩
  -- frames up to slots, from s'' to h5
  have fr5 : ∀ b ∈ frs X.stack, ∀ o, s''.heap.get? b = some o → (∀ vs, o.data ≠ .fields vs) → ∃ sl, h5.get? b = some { o with slots := sl } := fun b hb o e hnf => by
    obtain ⟨sl1, e1⟩ := up3 b o e hnf
    have ne : b ≠ ce.locals := fun z => nC (z ▸ hb)
    obtain ⟨sl2, e2⟩ := up5 b _ ((at4 b ne).trans e1) hnf
    exact ⟨sl2, e2⟩
  have lo : ∀ b o, s3.heap.get? b = some o → b ≠ ce.locals := fun b o e z => by
    rw [z, hL] at e
    exact Nat.lt_irrefl _ (Heap.lt_size e)
  have hfs : ∀ b ∈ frs X.stack, ∃ o, s3.heap.get? b = some o ∧ ∀ vs, o.data ≠ .fields vs := fun b hb => by
    obtain ⟨_, o, e, q⟩ := I3.stack.mem hb
    exact ⟨o, e, q⟩
  have fx : ∀ b ∈ frs X.stack, b ∉ fp := fun b hb z => by
    have := (hfp b z).1
    rcases List.mem_cons.mp (I3.stkSub b hb) with q | q
    · exact this.2.1 q
    · exact this.2.2.1 q
  have hok2 : HOk X.prog X.w H2 G := fun b u q => (hok b u q).stay (fun c v hc r => gB c v (B3 c v r fun z => by
    have hz2 : H2 ce.locals = none := ub.free _ _ eC hC'
    rcases hc with hc | hc
    · rw [z] at hc
      rw [hc, q] at hz2; cases hz2
    · rw [z, hz2] at hc; cases hc)) (fun _ r => r) fun _ _ r => r
  have unG : Un (frs X.stack) fp H3 H2 s3.heap G := by
    refine ⟨fun b o e n hb hx => ?_, fun b o e n hb hx => ?_, fun b o e n hx => ?_, fun b o e hx => ?_, fun b xs q => ub.tups b xs (bs.tups b xs q), fun b o xs q => ub.frzs b o xs (bs.frzs b o xs q), fun b ps q => ?_⟩
    · exact gB b o (B3 b o (ub.keep b o (bs.keep b o e n hb hx) (bs.free b o e n hx) hb) (lo b o e))
    · obtain ⟨o0, e0, q0⟩ := hfs b hb
      rw [e] at e0
      cases e0
      obtain ⟨sl1, e1⟩ := bs.slot b o e n hb hx
      obtain ⟨sl2, e2⟩ := ub.slot b _ e1 hb
      obtain ⟨sl3, e3⟩ := fr5 b hb _ e2 q0
      exact ⟨sl3, by rw [gF b hb]; exact e3⟩
    · obtain ⟨o', e1⟩ := bs.there b o e hx
      exact ub.free b o' e1 (bs.free b o e n hx)
    · obtain ⟨o', e1⟩ := bs.there b o e hx
      by_cases hb : b ∈ frs X.stack
      · obtain ⟨o0, e0, q0⟩ := hfs b hb
        rw [e] at e0
        cases e0
        obtain ⟨sl1, e1⟩ := bs.slot b o e (I3.stkFree b hb) hb hx
        obtain ⟨sl2, e2⟩ := ub.slot b _ e1 hb
        obtain ⟨sl3, e3⟩ := fr5 b hb _ e2 q0
        exact ⟨_, by rw [gF b hb]; exact e3⟩
      · obtain ⟨o2, e2⟩ := ub.there b o' e1 hb
        exact ⟨o2, gB b o2 (B3 b o2 e2 (lo b o e))⟩
    · obtain ⟨m1, q1⟩ := bs.tbls b ps q
      obtain ⟨m2, q2⟩ := ub.tbls b _ q1
      exact ⟨m1 ++ m2, by rw [q2, Array.append_assoc]⟩
  have os3 : s''.os = s3.os := os.trans I'.os
  have J : Inv X pins σ H2 { s3 with heap := G, gens := s''.gens, drawn := s''.drawn, toks := s''.toks } :=
    I3.call (ch := fp) unG hok2 ag fun b hb => ⟨(hfp b hb).1.2.2.2.1, (hfp b hb).1.2.1, (hfp b hb).1.2.2.2.2.1, (hfp b hb).1.2.2.2.2.2⟩
  refine ⟨a, B', { s3 with heap := G, gens := s''.gens, drawn := s''.drawn, toks := s''.toks }, pins, σ, H2, cls, d, rfl, J, fun b o e hb => ?_, Heap.UpToSlots.of_keeps fun b o e => (og b o e).1, .inr (.inr (by rw [hs]; exact hh5)), na, os3, ag, w⟩
  obtain ⟨e', h⟩ := og b o e
  rcases h with h | h
  · obtain ⟨o', q⟩ := Option.isSome_iff_exists.mp h
    have z := st5 b o' q
    rw [e'] at z; cases z
    exact q
  · exact absurd h hb
end

/-- [elt for target in iter], the element may raise what W takes at the slots as they stand -/
def tLcX (wi : TI) (g : TG) (W : WX) (te : XK → TE) (vs : List Nat) : TE := fun σ H Q => tLc wi g tYes (te fun cls d H2 => W cls d σ H2) vs σ H Q
theorem pe_lcX {X : Cx} {elt tg iter : Expr} {scope : Scope} {own : List (Str × Nat)} {pos : Pos} {wi : TI} {g : TG} {te : XK → TE} {W : WX} (hstk : X.stack = X.env :: X.outer) (hfrm : X.env.frame = some X.env.locals) (tk : L2N.Takes X W)
    (hc : X.calm = true) (hN : X.N.Nodup) (hi : PI X tg iter wi) (ok : BlkOk X.N X.env.scope scope own)
    (hg : ∀ (s : Shared) (H : Hp) (C : Addr) (cl : List (Str × Addr)) (fp : List Addr) (xe : Value → Shared → Prop), PG (X.blkE s H scope (compEnvC scope cl C X.env) fp xe) tg g)
    (he : ∀ (s : Shared) (H : Hp) (C : Addr) (cl : List (Str × Addr)) (fp : List Addr) (xe : Value → Shared → Prop) (E : XK), Passes (L2N.CX X.prog X.w) (X.blkE s H scope (compEnvC scope cl C X.env) fp xe) E → PE (X.blkE s H scope (compEnvC scope cl C X.env) fp xe) elt (te E))
    (hs : ∀ x, foldedSetIterable iter X.env x = pure x := by intro _; rfl) :
    PE X (.ListComp elt [⟨tg, iter, [], 0⟩] scope pos) (tLcX wi g W te (own.map (·.2))) := by
  refine ⟨fun pins s σ H Q I h => ?_⟩
  rw [eval_ListComp]
  have hfree : ∀ y ∈ scope.names, y.2 = .free → ∃ c, X.env.cells.lookup y.1 = some c := fun y hy e => by
    rcases ok.free y hy e with k | k
    · exact I.ok.has _ (.inl k)
    · exact I.ok.has _ (.inr k)
  refine comprehension_at (use := none) rfl hs (closure_ok hfree) ok.kind (fun y hy e => by rw [ok.uniq y hy, e])
    (thn (hi.run pins s σ H _ I h) fun xv s1 hx => thn hx fun itv s2 h2 => ?_)
  obtain ⟨it, fp, tn, J, H2, e, I2, T, st2, f2, q⟩ := h2
  subst e
  refine wpAny_newObj_type (newEnv_comp ?_) (by show 0 ≤ sizeLine; decide)
  generalize hD : s2.heap.objs.size = D
  have hDn : H2 D = none := I2.hok.fresh (Nat.le_of_eq hD)
  obtain ⟨Wv, ⟨m0, w0⟩, turn⟩ := q D hDn
  generalize hs3 : ({ s2 with heap := s2.heap.push { cls := .type "list", data := .seq ([] : List Value).toArray } } : Shared) = s3
  have I3 : Inv X pins σ (upd H2 D (.lst [])) s3 := by
    rw [← hs3]
    refine I2.laid (t' := s2.toks) (fun b o e => Heap.get?_push_of_some _ e) (Nat.le_of_eq hD) ⟨Nat.zero_le _, [], 0, .nil, ?_⟩
    rw [← hD]
    exact Heap.get?_push_size _ rfl
  have h3 : s3.heap = s2.heap.push { cls := .type "list", data := .seq ([] : List Value).toArray } := by rw [← hs3]
  have sz : ∀ b ∈ fp, b < s2.heap.objs.size := fun b hb => by
    obtain ⟨o, e, _⟩ := T.obj _ _ st2 b hb
    exact Heap.lt_size e
  have f3 : ∀ b ∈ fp, FpOk X pins (upd H2 D (.lst [])) b ∧ b < s3.heap.objs.size := fun b hb => by
    have hlt := sz b hb
    refine ⟨⟨?_, (f2 b hb).2⟩, by rw [h3, Heap.size_push]; exact Nat.lt_succ_of_lt hlt⟩
    rw [upd_ne (by rw [← hD]; exact Nat.ne_of_lt hlt)]
    exact (f2 b hb).1
  have st3 : tn 0 s3.heap := T.keep _ _ _ st2 fun b _ o e => by rw [h3]; exact Heap.get?_push_of_some _ e
  have I4 := block_start I3 ok hN f3
  show codeAny _ _ (.compStart (.ListComp elt [⟨tg, iter, [], 0⟩] scope pos) 0 (.ref it) (.ref D) (compEnvC scope (cellsFrom (s3.heap.objs.size + 1) scope.names (cloFrom X.env.cells scope.names [])) s3.heap.objs.size X.env)) (compEnds (model X.prog X.w) X.A X.xe none (EP X pins σ Q) (.ref D) (compEnvC scope (cellsFrom (s3.heap.objs.size + 1) scope.names (cloFrom X.env.cells scope.names [])) s3.heap.objs.size X.env)) { s3 with heap := pushCells (s3.heap.push { cls := .type "dict", data := .dict #[] }) scope.names }
  have nfp : ∀ b ∈ fp, (upd H2 D (.lst [])) b = none := fun b hb => (f3 b hb).1.1
  have cf : (compEnvC scope (cellsFrom (s3.heap.objs.size + 1) scope.names (cloFrom X.env.cells scope.names [])) s3.heap.objs.size X.env).frame = X.env.frame := rfl
  have cL : (compEnvC scope (cellsFrom (s3.heap.objs.size + 1) scope.names (cloFrom X.env.cells scope.names [])) s3.heap.objs.size X.env).locals = s3.heap.objs.size := rfl
  have pg := hg s3 (upd H2 D (.lst [])) s3.heap.objs.size (cellsFrom (s3.heap.objs.size + 1) scope.names (cloFrom X.env.cells scope.names [])) fp
  have pe := he s3 (upd H2 D (.lst [])) s3.heap.objs.size (cellsFrom (s3.heap.objs.size + 1) scope.names (cloFrom X.env.cells scope.names [])) fp
  generalize compEnvC scope (cellsFrom (s3.heap.objs.size + 1) scope.names (cloFrom X.env.cells scope.names [])) s3.heap.objs.size X.env = ce at I4 pg pe cf cL ⊢
  generalize upd H2 D (.lst []) = H3 at I3 I4 pg pe w0 nfp f3
  generalize hs4 : ({ s3 with heap := pushCells (s3.heap.push { cls := .type "dict", data := .dict #[] }) scope.names } : Shared) = s4 at I4 ⊢
  have st4 : tn 0 s4.heap := T.keep _ _ _ st3 fun b _ o e => by rw [← hs4]; exact pushCells_keeps _ _ _ _ (Heap.get?_push_of_some _ e)
  generalize hxe : (notedBy (model X.prog X.w) X.A ce (CompFails (model X.prog X.w) X.A X.xe ce)) = xeB
  have I4 : Inv (X.blkE s3 H3 scope ce fp xeB) [] (wipe σ (own.map (·.2))) H3 s4 := I4.wish xeB
  have pg := pg xeB
  have pe := pe xeB (fun cls d H2 => W cls d σ H2) fun pins' σ' H' s' e s'' I' cx => by
    show xeB e s''
    rw [← hxe]
    exact blk_out hstk hfrm tk I3 f3 cL cf I' cx
  have stat : ∀ {σ' : St} {H' : Hp} {s' : Shared}, Inv (X.blkE s3 H3 scope ce fp xeB) [] σ' H' s' → (∀ b ∈ fp, H' b = none) → ∀ b ∈ fp, FpOk (X.blkE s3 H3 scope ce fp xeB) [] H' b := fun {σ' H' s'} I' hn b hb =>
    ⟨hn b hb, (I'.ok.exf b hb).1, I'.ok.exfs b hb, .inl hb, fun x c e => (I'.ok.exf b hb).2 x c e, fun p hp => absurd (show p ∈ ([] : List (Addr × Obj)) ++ [] from hp) (by simp)⟩
  have loop : codeAny (model X.prog X.w) X.A (.compLoop (.ListComp elt [⟨tg, iter, [], 0⟩] scope pos) 0 (.ref it) (.ref D) ce) (compEnds (model X.prog X.w) X.A X.xe none (EP X pins σ Q) (.ref D) ce) s4 := by
    refine compLoop_any (fun n s' => ∃ i H', Inv (X.blkE s3 H3 scope ce fp xeB) [] (wipe σ (own.map (·.2))) H' s' ∧ tn i s'.heap ∧ (∀ b ∈ fp, H' b = none) ∧ Wv i n H') ?_ m0 ⟨0, H3, I4, st4, nfp, w0⟩
    rintro n s5 ⟨i, H5, I5, st5, n5, w5⟩
    show wpAny _ _ (pyNext (.ref it)) _ (notedBy (model X.prog X.w) X.A ce (CompFails (model X.prog X.w) X.A X.xe ce)) s5
    rcases turn i n H5 w5 with ⟨stop, qq⟩ | ⟨go, Nx, hNx, step⟩
    · have td := T.done (X.blkE s3 H3 scope ce fp xeB) rfl rfl rfl hc i [] s5 _ H5 (fun _ _ => False) I5 (stat I5 n5) st5 stop
      refine thnF td fun r s6 ⟨hr, I6⟩ => ?_
      subst hr
      have I7 : Inv X pins σ H5 s6 := I3.call' (ch := fp) I6.os I6.base I6.hok I6.bare fun b hb => ⟨(f3 b hb).1.2.2.2.1, (f3 b hb).1.2.1, (f3 b hb).1.2.2.2.2.1, (f3 b hb).1.2.2.2.2.2⟩
      have nC : H5 s3.heap.objs.size = none := by
        have z : H5 ce.locals = none := I6.free
        rw [cL] at z
        exact z
      obtain ⟨m, hn, _⟩ := I6.loc
      have hn : s6.heap.Ns ce.locals m := hn
      refine ⟨m, hn, fun h'' sb => ?_⟩
      rw [cL] at sb
      obtain ⟨f0, f1, f2', f3', f4, f5⟩ := I3.fpOk (Nat.le_refl _) nC
      exact ⟨.ref D, H5, I7.turned (t' := s6.toks) (fun b o hb e => (sb.2 b hb).trans e) f0 f1 f3' f4 f5, rfl, qq⟩
    · have ti := T.item (X.blkE s3 H3 scope ce fp xeB) rfl rfl rfl hc i [] s5 _ H5 (fun _ _ => False) I5 (stat I5 n5) st5 go
      refine thnF ti fun r s6 ⟨u, hr, h6⟩ => ?_
      subst hr
      refine thnF h6 fun _ s7 ⟨x, H7, I7, r7, y7, st7, n7⟩ => ?_
      have I7' := I7.pinned (stat I7 n7) (T.obj _ _ st7)
      have hxe2 : (notedBy (model X.prog X.w) X.A ce fun e s' => compEnds (model X.prog X.w) X.A X.xe none (EP X pins σ Q) (Value.ref D) ce (Except.error e) s') = xeB := hxe
      rw [hxe2]
      refine thn (pg.run _ s7 _ H7 x u _ I7' r7 (step x H7 y7)) fun _ s8 ⟨σ8, H8, I8, hw8, q8⟩ => ?_
      refine wpAny_tests_nil ?_
      rw [if_pos rfl]
      have q8 : (te fun cls d H2 => W cls d σ H2) σ8 H8 fun y H4 => ∃ acc, H4 D = some (.lst acc) ∧ acc.length < sizeLine ∧ Nx (upd H4 D (.lst (acc ++ [y]))) := q8
      have fin : ∀ {s' : Shared} {H' : Hp}, Inv (X.blkE s3 H3 scope ce fp xeB) ([] ++ pinsAt fp s7.heap) σ8 H' s' → Nx H' → ∃ m, m < n ∧ ∃ i H', Inv (X.blkE s3 H3 scope ce fp xeB) [] (wipe σ (own.map (·.2))) H' s' ∧ tn i s'.heap ∧ (∀ b ∈ fp, H' b = none) ∧ Wv i m H' := fun {s' H'} I' nx => by
        obtain ⟨m', hm, w'⟩ := hNx H' nx
        have pin' : ∀ b ∈ fp, ∀ o, s7.heap.get? b = some o → s'.heap.get? b = some o ∧ H' b = none := fun b hb o e =>
          let z := I'.pin (b, o) (List.mem_append_right _ (List.mem_append_right _ (mem_pinsAt hb e)))
          ⟨z.1, z.2.1⟩
        have hl : (wipe σ (own.map (·.2))).length = σ8.length := by rw [← hw8, wipe_length]
        refine ⟨m', hm, i + 1, H', (I'.unpinned (pins := [])).weak hl (fun j v e => ?_), T.keep _ _ _ st7 fun b hb o e => (pin' b hb o e).1, fun b hb => ?_, w'⟩
        · rw [← hw8] at e
          exact (wipe_some e).1
        · obtain ⟨o, e, _⟩ := T.obj _ _ st7 b hb
          exact (pin' b hb o e).2
      refine thn (pe.run _ s8 σ8 H8 _ I8 q8) fun z s10 ⟨yv, H10, I10, r10, acc, hD10, hz10, nx⟩ => ?_
      exact app_ok (X := X.blkE s3 H3 scope ce fp xeB) I10 hD10 hz10 r10 fun s11 I11 => fin I11 nx
  exact codeAny_compStart_list loop (T.self X.A 0 _ _ _ st4 loop)
end L2
end

/-! text R6 -/
section
set_option Elab.async false
set_option linter.all false
set_option maxRecDepth 100000
set_option maxHeartbeats 2000000
/-! a written dict whose keys are whole numbers or texts -/
namespace L2
open PySem PySem.Spec PyProof.Rows
def KD (P : Program) (w : World) (K : PySem.W.Frag) (d : Addr) (kvs : List (Key × V)) : Prop := (d == sysModules) = false ∧ ∀ h : Heap, K.In h → ∃ vs, KV kvs vs ∧ h.DictOf (mixKind P w) d vs
def tKIn (d : Addr) (kvs : List (Key × V)) (ty td : TE) : TE := fun σ H Q => ty σ H fun y H1 => td σ H1 fun x H2 => ∃ k, x = .ref d ∧ y = kV k ∧ Q (.bl (valV kvs k).isSome) H2
def tKGet (d : Addr) (kvs : List (Key × V)) (td ty : TE) : TE := fun σ H Q => td σ H fun x H1 => ty σ H1 fun y H2 => ∃ k v, x = .ref d ∧ y = kV k ∧ valV kvs k = some v ∧ Q v H2
section
variable {X : Cx} {o i : Expr} {pos : Pos} {td ty : TE} {d : Addr} {kvs : List (Key × V)}
theorem pc_kin (D : KD X.prog X.w X.K d kvs) (hi : PE X i ty) (ho : PE X o td) : PC X .In i o (tKIn d kvs ty td) := by
  refine ⟨fun pins s σ H Q I h => ?_⟩
  refine thn (hi.run pins s σ H _ I h) fun iv s1 ⟨y, H1, I1, ry, q1⟩ => thn (ho.run pins s1 σ H1 _ I1 q1) fun u s2 ⟨x, H2, I2, rx, k, ex, ey, q2⟩ => ?_
  subst ex
  subst ey
  obtain rfl : u = Value.ref d := rx
  obtain ⟨vs, rel, dd⟩ := D.2 _ I2.kIn
  refine wpAny_in_of (kV_is ry) D.1 dd.mapOf ?_
  rw [← (rel.val k).isSome_eq]
  exact ⟨.bl _, H2, I2.tok _, rfl, q2⟩
theorem pe_kget (D : KD X.prog X.w X.K d kvs) (ho : PE X o td) (hi : PE X i ty) (hs : NoSl i) : PE X (.Subscript o i pos) (tKGet d kvs td ty) := by
  refine ⟨fun pins s σ H Q I h => ?_⟩
  refine subD_of PySem.F.slot_dict_getitem.lookup hs (thn (ho.run pins s σ H _ I h) fun u s1 ⟨x, H1, I1, rx, q1⟩ => thn (hi.run pins s1 σ H1 _ I1 q1) fun iv s2 ⟨y, H2, I2, ry, k, v, ex, ey, l, q2⟩ => ?_)
  subst ex
  subst ey
  obtain rfl : u = Value.ref d := rx
  obtain ⟨vs, rel, dd⟩ := D.2 _ I2.kIn
  obtain ⟨w', hw, rw'⟩ := RelO.some_of (v := v) (o := valueAt vs k) (by rw [← l]; exact rel.val k)
  exact ⟨dd.typeIs, wpAny_getItem_of (kV_is ry) dd.mapOf hw ⟨v, H2, I2.tok _, rw', q2⟩⟩
end
/-- four whole numbers as keys, texts as values -/
theorem KD.four {P : Program} {w : World} {K : PySem.W.Frag} {d : Addr} {i1 i2 i3 i4 : Int} {x1 x2 x3 x4 : Str} {t1 t2 t3 t4 u1 u2 u3 u4 : Tok} {ep : Nat} (hd : (d == sysModules) = false) (nd : [i1, i2, i3, i4].Nodup)
    (l : K.lookup d = some ⟨.type "dict", none, .dict #[⟨hashInt i1, .int i1 t1, .str x1 u1⟩, ⟨hashInt i2, .int i2 t2, .str x2 u2⟩, ⟨hashInt i3, .int i3 t3, .str x3 u3⟩, ⟨hashInt i4, .int i4 t4, .str x4 u4⟩] ep, #[]⟩) :
    KD P w K d [(.inl i1, .str x1), (.inl i2, .str x2), (.inl i3, .str x3), (.inl i4, .str x4)] := by
  refine ⟨hd, fun h KX => ⟨[(.inl i1, .str x1 u1), (.inl i2, .str x2 u2), (.inl i3, .str x3 u3), (.inl i4, .str x4 u4)], ?_, _, _, ep, KX _ _ l, ⟨rfl, rfl, rfl⟩, rfl, ?_, ?_, ?_⟩⟩
  · exact .cons ⟨rfl, u1, rfl⟩ (.cons ⟨rfl, u2, rfl⟩ (.cons ⟨rfl, u3, rfl⟩ (.cons ⟨rfl, u4, rfl⟩ .nil)))
  · intro e he
    simp at he
    rcases he with rfl | rfl | rfl | rfl
    · exact ⟨.inl i1, keyIs_int i1 t1, rfl⟩
    · exact ⟨.inl i2, keyIs_int i2 t2, rfl⟩
    · exact ⟨.inl i3, keyIs_int i3 t3, rfl⟩
    · exact ⟨.inl i4, keyIs_int i4 t4, rfl⟩
  · exact .cons (keyIs_int i1 t1) rfl (.cons (keyIs_int i2 t2) rfl (.cons (keyIs_int i3 t3) rfl (.cons (keyIs_int i4 t4) rfl .nil)))
  · simp at nd ⊢
    exact nd
end L2
end

/-! text W0 -/
section
set_option Elab.async false
set_option linter.all false
set_option maxRecDepth 100000
set_option maxHeartbeats 4000000
/-! words for the walks -/
namespace Ms
open PySem PySem.Spec PyProof.Rows L2
/-- the i-th statement of the program -/
def top (i : Nat) : Stmt := PySem.Challenge.pw_momentsets_s01_answers.main.body.getD i (.Pass ⟨0, 0, 0, 0⟩)
/-- a def of the text as it stands behind the top -/
def DefAt (K : PySem.W.Frag) (x : Str) (st : Stmt) : Prop := ∃ (f : Addr) (od an : Option Addr) (sl : Array (Option Value)) (oc kV dc pm cd ct : Value),
  PySem.W.nsIn K mainGlobals x = some (some (.ref f)) ∧ K.lookup f = some ⟨oc, od, .func (PySem.W.fnOf x x (defArgs st) (defBody st) (defScope st) .none kV dc pm an cd ct), sl⟩ ∧ PySem.W.codeIn K cd x = true ∧ PySem.W.keepIn K (.ref f) = true
/-- what the written part says of the module's names is so -/
def Gm (K : PySem.W.Frag) (mg : Str → Option Value) : Prop := ∀ x r, PySem.W.nsIn K mainGlobals x = some r → mg x = r
/-- a def that keeps its promise, by its name -/
structure Fn (P : Program) (w : World) (K : PySem.W.Frag) (mg : Str → Option Value) (base : Heap) (CX : CXT) (k : Nat) (x : Str) (ps : List Str) (sp : Sp) : Prop where
  ex : ∃ (f : Addr) (fd : FuncData), mg x = some (.ref f) ∧ PySem.W.keepIn K (.ref f) = true ∧ Binds K fd ps [] ∧ FnOk P w K mg base CX k f fd ps sp
section
variable {P : Program} {w : World} {K : PySem.W.Frag} {mg : Str → Option Value} {base : Heap}
theorem Fn.mono {CX : CXT} {j k : Nat} {x : Str} {ps : List Str} {sp : Sp} (F : Fn P w K mg base CX j x ps sp) (h : j ≤ k) : Fn P w K mg base CX k x ps sp :=
  let ⟨f, fd, h1, h2, h3, h4⟩ := F.ex; ⟨f, fd, h1, h2, h3, h4.mono h⟩
theorem DefAt.fn {x : Str} {st : Stmt} {N ps : List Str} {k : Nat} {sp : Sp} (d : DefAt K x st) (G : Gm K mg) (S : FnScope N ps (defScope st))
    (hb : ∀ (kV doc pm : Value) (an : Option Addr) (cdv ct : Value) (us : List Value), us.length = ps.length → bindArgs (PySem.W.fnOf x x (defArgs st) (defBody st) (defScope st) .none kV doc pm an cdv ct) ⟨us, []⟩ = pure (ps.zip us))
    (len : ∀ vs H Q E, sp vs H Q E → vs.length = ps.length)
    (hbody : ∀ (f : Addr) (cdv : Value) (A : Around) (outer : List Env) (s : Shared) (H : Hp) (vs : List V) (Q : VK) (E : XK), Room k (A.deeper (envOfC x (defScope st) s.heap.objs.size f cdv)) → sp vs H Q E →
      ∃ t, PSs (cxOf CX0 P w K mg base N x (defScope st) f cdv A outer s H E).nox (defBody st) t ∧ t { nx := fun _ H' => Q .non H', rt := Q } (start N vs) H) : Fn P w K mg base CX0 (k + 1) x ps sp := by
  obtain ⟨f, od, an, sl, oc, kV, dc, pm, cd, ct, a, l, c, kk⟩ := d
  have F := fun_mk (st := st) l c kk
  exact ⟨f, _, G _ _ a, kk, F.binds hb, F.ok S len (fun cdv A outer s H vs Q E hr h => hbody f cdv A outer s H vs Q E hr h)⟩
theorem DefAt.fnX {x : Str} {st : Stmt} {N ps : List Str} {k : Nat} {sp : Sp} (d : DefAt K x st) (G : Gm K mg) (S : FnScope N ps (defScope st))
    (hb : ∀ (kV doc pm : Value) (an : Option Addr) (cdv ct : Value) (us : List Value), us.length = ps.length → bindArgs (PySem.W.fnOf x x (defArgs st) (defBody st) (defScope st) .none kV doc pm an cdv ct) ⟨us, []⟩ = pure (ps.zip us))
    (len : ∀ vs H Q E, sp vs H Q E → vs.length = ps.length)
    (hbody : ∀ (f : Addr) (cdv : Value) (A : Around) (outer : List Env) (s : Shared) (H : Hp) (vs : List V) (Q : VK) (E : XK), Room k (A.deeper (envOfC x (defScope st) s.heap.objs.size f cdv)) → sp vs H Q E →
      ∃ t, PSs (cxOf (L2.CX P w) P w K mg base N x (defScope st) f cdv A outer s H E) (defBody st) t ∧ t { nx := fun _ H' => Q .non H', rt := Q } (start N vs) H) : Fn P w K mg base (L2.CX P w) (k + 1) x ps sp := by
  obtain ⟨f, od, an, sl, oc, kV, dc, pm, cd, ct, a, l, c, kk⟩ := d
  have F := fun_mk (st := st) l c kk
  exact ⟨f, _, G _ _ a, kk, F.binds hb, F.okX S len (fun cdv A outer s H vs Q E hr h => hbody f cdv A outer s H vs Q E hr h)⟩
end
section
variable {X : Cx} {CX : CXT} {k : Nat} {x : Str} {ps : List Str} {sp : Sp} {E : XK} {p pos : Pos} {e : Expr} {es : List Expr} {t : TA}
/-- f(e, ..) where nothing that is raised leaves -/
theorem pe_fn (F : Fn X.prog X.w X.K X.mg X.base CX0 k x ps sp) (hr : Room k X.A) (ha : PA X (e :: es) t) (hg : Gl X x := by rfl) (hdb : (x == ("__debug__" : Str)) = false := by decide)
    (he : starEach (e :: es) X.env = (false, eval e X.env) :: starEach es X.env := by rfl) (hpl : (backTo pos (starEach es X.env)).any (·.1) = false := by rfl) : PE X (.Call (.Name x p) (e :: es) [] pos) (tCall sp [] E0 t) := by
  obtain ⟨f, fd, h1, h2, h3, h4⟩ := F.ex
  exact pe_call h4 hr hg h1 h2 h3 .nil pass0 ha hdb he hpl
/-- f(e, ..) that may raise -/
theorem pe_fnX (F : Fn X.prog X.w X.K X.mg X.base CX k x ps sp) (hr : Room k X.A) (hx : Passes CX X E) (ha : PA X (e :: es) t) (hg : Gl X x := by rfl) (hdb : (x == ("__debug__" : Str)) = false := by decide)
    (he : starEach (e :: es) X.env = (false, eval e X.env) :: starEach es X.env := by rfl) (hpl : (backTo pos (starEach es X.env)).any (·.1) = false := by rfl) : PE X (.Call (.Name x p) (e :: es) [] pos) (tCall sp [] E t) := by
  obtain ⟨f, fd, h1, h2, h3, h4⟩ := F.ex
  exact pe_call h4 hr hg h1 h2 h3 .nil hx ha hdb he hpl
end
/-! ### the heap: what stands stays, but for the table of joined's code -/
def qJ : Str := "joined.<locals>.<lambda>"
structure Kp (J : Addr) (H H' : Hp) : Prop where
  ext : LamX.ExtN H H'
  tab : LamX.TabS H J qJ → LamX.TabS H' J qJ
section
variable {J : Addr} {H H1 H2 : Hp}
theorem Kp.refl : Kp J H H := ⟨LamX.ExtN.refl H, fun t => t⟩
theorem Kp.trans (a : Kp J H H1) (b : Kp J H1 H2) : Kp J H H2 := ⟨a.ext.trans b.ext, fun t => b.tab (a.tab t)⟩
theorem Kp.same (s : Same H H1) : Kp J H H1 := ⟨LamX.ExtN.of s, fun t => t.ext s⟩
theorem Kp.lst {a : Addr} {xs : List V} (k : Kp J H H1) (h : H a = some (.lst xs)) : H1 a = some (.lst xs) := k.ext _ _ h fun ps z => by cases z
theorem Kp.tup {a : Addr} {xs : List V} (k : Kp J H H1) (h : H a = some (.tup xs)) : H1 a = some (.tup xs) := k.ext _ _ h fun ps z => by cases z
theorem Kp.free {l : Addr} (k : Kp J H H1) (h : H1 l = none) (nt : ∀ ps, H l ≠ some (.tbl ps)) : H l = none := by
  cases q : H l with
  | none => rfl
  | some o => rw [k.ext l o q fun ps z => nt ps (by rw [q, z])] at h; cases h
theorem same_upd {a : Addr} {o : HO} (h : H a = none) : Same H (upd H a o) := fun b u q => by rw [upd_ne (ne_of_none q h)]; exact q
theorem Kp.new {a : Addr} {o : HO} (h : H a = none) : Kp J H (upd H a o) := Kp.same (same_upd h)
end
abbrev Tab (J : Addr) (H : Hp) : Prop := LamX.TabS H J qJ
/-- a list of whole numbers -/
abbrev IL (H : Hp) (a : Addr) (ns : List Int) : Prop := H a = some (.lst (ns.map V.int))
def endV : Option Int → V
  | none => .non
  | some e => .int e
abbrev PcAt (H : Hp) (t : Addr) (x : Pc) : Prop := H t = some (.tup [.int x.1, endV x.2])
/-- a list of pieces -/
def PL (H : Hp) (a : Addr) (l : List Pc) : Prop := ∃ ts : List Addr, H a = some (.lst (ts.map V.ref)) ∧ Paired (PcAt H) ts l
theorem Kp.pc {J : Addr} {H H1 : Hp} {t : Addr} {x : Pc} (k : Kp J H H1) (h : PcAt H t x) : PcAt H1 t x := k.tup h
theorem Kp.pcs {J : Addr} {H H1 : Hp} {ts : List Addr} {l : List Pc} (k : Kp J H H1) (h : Paired (PcAt H) ts l) : Paired (PcAt H1) ts l := L2.Paired.mapP h fun _ _ q => k.pc q
theorem Kp.pl {J : Addr} {H H1 : Hp} {a : Addr} {l : List Pc} (k : Kp J H H1) (h : PL H a l) : PL H1 a l := let ⟨ts, h1, h2⟩ := h; ⟨ts, k.lst h1, k.pcs h2⟩
/-! ### comprehensions -/
theorem tab_upd {J D : Addr} {H : Hp} {xs ys : List V} (t : Tab J H) (hD : H D = some (.lst xs)) : Tab J (upd H D (.lst ys)) := by
  obtain ⟨ps, h1, h2, h3⟩ := t
  have ne : ∀ {b : Addr} {o : HO}, H b = some o → (∀ zs, o ≠ .lst zs) → b ≠ D := fun {b o} e n z => by
    rw [z, hD] at e
    exact n _ (Option.some.inj e).symm
  refine ⟨ps, by rw [upd_ne (ne h1 fun zs z => by cases z)]; exact h1, h2, fun pos cv hc => ?_⟩
  obtain ⟨c, e1, e2⟩ := h3 pos cv hc
  exact ⟨c, e1, by rw [upd_ne (ne e2 fun zs z => by unfold LamX.CodeO at z; cases z)]; exact e2⟩
theorem tab_new {J D : Addr} {H : Hp} {o : HO} (t : Tab J H) (hD : H D = none) : Tab J (upd H D o) := t.ext (same_upd hD)
/-- the tuples stand -/
def TK (H H' : Hp) : Prop := ∀ b xs, H b = some (.tup xs) → H' b = some (.tup xs)
theorem Kp.tk {J : Addr} {H H' : Hp} (k : Kp J H H') : TK H H' := fun _ _ h => k.tup h
theorem tk_upd {D : Addr} {H : Hp} {xs ys : List V} (hD : H D = some (.lst xs)) : TK H (upd H D (.lst ys)) := fun b zs q => by
  rw [upd_ne (ne_of q hD fun z => by cases z)]
  exact q
/-- behind i turns of a comprehension that began at H1: the new list at D holds acc, of which R says what it is -/
structure LcP (J : Addr) (H1 : Hp) (D : Addr) (R : Nat → List V → Hp → Prop) (i : Nat) (H : Hp) : Prop where
  kp : Kp J H1 H
  tab : Tab J H
  nw : H1 D = none
  at_ : ∃ acc, H D = some (.lst acc) ∧ R i acc H
section
variable {J D : Addr} {H1 H H4 : Hp} {R : Nat → List V → Hp → Prop} {i : Nat}
theorem LcP.start (hD : H1 D = none) (t : Tab J H1) (r : R 0 [] (upd H1 D (.lst []))) : LcP J H1 D R 0 (upd H1 D (.lst [])) := ⟨Kp.new hD, tab_new t hD, hD, [], upd_same, r⟩
theorem LcP.app {acc : List V} {y : V} (p : LcP J H1 D R i H) (k : Kp J H H4) (h : H D = some (.lst acc)) (hl : acc.length < sizeLine) (r : R (i + 1) (acc ++ [y]) (upd H4 D (.lst (acc ++ [y])))) :
    ∃ acc, H4 D = some (.lst acc) ∧ acc.length < sizeLine ∧ LcP J H1 D R (i + 1) (upd H4 D (.lst (acc ++ [y]))) := by
  have h4 := k.lst h
  refine ⟨acc, h4, hl, ⟨⟨fun b o q n => ?_, fun t => tab_upd (k.tab p.tab) h4⟩, tab_upd (k.tab p.tab) h4, p.nw, _, upd_same, r⟩⟩
  rw [upd_ne (ne_of_none q p.nw)]
  exact (p.kp.trans k).ext b o q n
theorem LcP.skip {acc : List V} (p : LcP J H1 D R i H) (k : Kp J H H4) (h : H D = some (.lst acc)) (r : R (i + 1) acc H4) : LcP J H1 D R (i + 1) H4 := ⟨p.kp.trans k, k.tab p.tab, p.nw, _, k.lst h, r⟩
end
/-- pieces made so far -/
def RPc (f : Nat → List Pc) : Nat → List V → Hp → Prop := fun i acc H => ∃ ts : List Addr, acc = ts.map V.ref ∧ Paired (PcAt H) ts (f i)
theorem paired_snoc {α β : Type} {R : α → β → Prop} : ∀ {l : List α} {r : List β} {a : α} {b : β}, Paired R l r → R a b → Paired R (l ++ [a]) (r ++ [b])
  | _, _, _, _, .nil, h => .cons h .nil
  | _, _, _, _, .cons x y, h => .cons x (paired_snoc y h)
theorem paired_app {α β : Type} {R : α → β → Prop} : ∀ {l l2 : List α} {r r2 : List β}, Paired R l r → Paired R l2 r2 → Paired R (l ++ l2) (r ++ r2)
  | _, _, _, _, .nil, h => h
  | _, _, _, _, .cons x y, h => .cons x (paired_app y h)
theorem paired_get {α β : Type} {R : α → β → Prop} : ∀ {l : List α} {r : List β} {i : Nat} {a : α}, Paired R l r → l[i]? = some a → ∃ b, r[i]? = some b ∧ R a b
  | _, _, _, _, .nil, h => by simp at h
  | _, _, 0, _, .cons x _, h => by simp at h; subst h; exact ⟨_, rfl, x⟩
  | _, _, i + 1, a, .cons _ y, h => by
    obtain ⟨b, h1, h2⟩ := paired_get (i := i) (a := a) y (by simpa using h)
    exact ⟨b, by simpa using h1, h2⟩
theorem TK.pcs {H H' : Hp} {ts : List Addr} {l : List Pc} (k : TK H H') (h : Paired (PcAt H) ts l) : Paired (PcAt H') ts l := L2.Paired.mapP h fun _ _ q => k _ _ q
theorem take_snoc {α : Type} {l : List α} {i : Nat} {x : α} (h : l[i]? = some x) : l.take (i + 1) = l.take i ++ [x] := by
  rw [List.take_add_one, h]
  rfl
theorem map_get {α β : Type} {f : α → β} {l : List α} {i : Nat} {y : β} (h : (l.map f)[i]? = some y) : ∃ x, l[i]? = some x ∧ y = f x := by
  rw [List.getElem?_map] at h
  cases q : l[i]? with
  | none => rw [q] at h; cases h
  | some x => rw [q] at h; exact ⟨x, rfl, (Option.some.inj h).symm⟩
theorem small {n : Nat} (h : n ≤ 100000) : n < sizeLine := Nat.lt_of_le_of_lt h (by decide)
theorem ifT {c : Bool} {A B : Prop} (hc : c = true) (h : A) : if c = true then A else B := by
  rw [if_pos hc]
  exact h
theorem ifF {c : Bool} {A B : Prop} (hc : c = false) (h : B) : if c = true then A else B := by
  rw [hc, if_neg Bool.false_ne_true]
  exact h
theorem kp_own {J D : Addr} {H H2 : Hp} {xs ys : List V} (k : Kp J H H2) (n : H D = none) (h : H2 D = some (.lst xs)) : Kp J H (upd H2 D (.lst ys)) := by
  refine ⟨fun b o q m => ?_, fun t => tab_upd (k.tab t) h⟩
  rw [upd_ne (ne_of_none q n)]
  exact k.ext b o q m
/-- a def of the text whose code object stands at c -/
def DefAtC (K : PySem.W.Frag) (x : Str) (st : Stmt) (c : Addr) : Prop := ∃ (f : Addr) (od an : Option Addr) (sl : Array (Option Value)) (oc kV dc pm ct : Value),
  PySem.W.nsIn K mainGlobals x = some (some (.ref f)) ∧ K.lookup f = some ⟨oc, od, .func (PySem.W.fnOf x x (defArgs st) (defBody st) (defScope st) .none kV dc pm an (.ref c) ct), sl⟩ ∧ PySem.W.codeIn K (.ref c) x = true ∧ PySem.W.keepIn K (.ref f) = true
theorem DefAtC.fn {P : Program} {w : World} {K : PySem.W.Frag} {mg : Str → Option Value} {base : Heap} {x : Str} {st : Stmt} {N ps : List Str} {k : Nat} {sp : Sp} {c : Addr} (d : DefAtC K x st c) (G : Gm K mg) (S : FnScope N ps (defScope st))
    (hb : ∀ (kV doc pm : Value) (an : Option Addr) (cdv ct : Value) (us : List Value), us.length = ps.length → bindArgs (PySem.W.fnOf x x (defArgs st) (defBody st) (defScope st) .none kV doc pm an cdv ct) ⟨us, []⟩ = pure (ps.zip us))
    (len : ∀ vs H Q E, sp vs H Q E → vs.length = ps.length)
    (hbody : ∀ (f : Addr) (A : Around) (outer : List Env) (s : Shared) (H : Hp) (vs : List V) (Q : VK) (E : XK), Room k (A.deeper (envOfC x (defScope st) s.heap.objs.size f (.ref c))) → sp vs H Q E →
      ∃ t, PSs (cxOf CX0 P w K mg base N x (defScope st) f (.ref c) A outer s H E).nox (defBody st) t ∧ t { nx := fun _ H' => Q .non H', rt := Q } (start N vs) H) : Fn P w K mg base CX0 (k + 1) x ps sp := by
  obtain ⟨f, od, an, sl, oc, kV, dc, pm, ct, a, l, cc, kk⟩ := d
  have F := fun_mk (st := st) l cc kk
  refine ⟨f, _, G _ _ a, kk, F.binds hb, fn_of l cc S len fun A outer s H vs Q E hr hsp => ?_⟩
  obtain ⟨t, h, q⟩ := hbody f A outer s H vs Q E hr hsp
  exact ⟨t, h.nox, q⟩
/-- the built-in names that the program leaves as they are -/
structure Bi (mg : Str → Option Value) : Prop where
  len : mg "len" = none
  list : mg "list" = none
  zip : mg "zip" = none
  sorted : mg "sorted" = none
  set : mg "set" = none
  max : mg "max" = none
  sum : mg "sum" = none
  int : mg "int" = none
  str : mg "str" = none
  ord : mg "ord" = none
  all : mg "all" = none
  range : mg "range" = none
end Ms
end

/-! text W1 -/
section
set_option Elab.async false
set_option linter.all false
set_option maxRecDepth 100000
set_option maxHeartbeats 4000000
namespace Ms
open PySem PySem.Spec PyProof.Rows L2
section
variable {P : Program} {w : World} {K : PySem.W.Frag} {mg : Str → Option Value} {base : Heap} {J : Addr}
/-! is_in -/
def spIsIn (J : Addr) : Sp := fun vs H Q _ => ∃ (a : Addr) (ns : List Int) (m : Int), vs = [.ref a, .int m] ∧ IL H a ns ∧ ns.length ≤ 100000 ∧ Tab J H ∧ ∀ H', Kp J H H' → Q (.bl (hasI ns m)) H'
theorem sc_is_in : FnScope ["bounds", "moment", "bound"] ["bounds", "moment"] (defScope (top 3)) := ⟨rfl, rfl, rfl, by decide +kernel, rfl, by decide +kernel, by decide +kernel⟩
theorem par_int (n : Nat) : decide ((n : Int) % 2 = 1) = (n % 2 == 1) := by
  rw [Bool.eq_iff_iff, decide_eq_true_iff, beq_iff_eq]
  omega
theorem ok_is_in (d : DefAt K "is_in" (top 3)) (G : Gm K mg) (B : Bi mg) : Fn P w K mg base CX0 1 "is_in" ["bounds", "moment"] (spIsIn J) := by
  refine d.fn G sc_is_in (fun _ _ _ _ _ _ us hl => match us, hl with | [_, _], _ => rfl) (fun vs H Q E h => ?_) (fun f cdv A outer s H vs Q E hr h => ?_)
  · obtain ⟨a, ns, m, rfl, _⟩ := h
    rfl
  · obtain ⟨a, ns, m, rfl, ha, hl, tb, k⟩ := h
    refine ⟨_, pss_one (ps_ret (pe_cmp (pc_eqI (pe_op op_mod (pe_callB call_len_seq (by rfl) B.len PySem.boot_len (pa_cons
      (pe_lc (own := [("bound", 2)]) (g := gName 2) rfl sc_is_in.nd (pi_list (pv 0)) (blkOk_by (N := ["bounds", "moment", "bound"]) (sc := defScope (top 3)) (by decide +kernel)) (fun _ _ _ _ _ => pg_name (i := 2) sc_is_in.nd rfl (Or.inl rfl)) (fun _ _ _ _ _ => pts_one (pt_cmp (pc_le (pv 2) (pv 1)))) (fun _ _ _ _ _ => pv 2)) pa_nil)) pe_int) pe_int))), ?_⟩
    refine ⟨_, rfl, a, rfl, ⟨_, SqL.of ha⟩, fun D hD => lc_it (walk_list (K := K) (a := a) (xs := ns.map V.int)) (LcP J H D fun i acc _ => acc = (((ns.take i).filter fun b => decide (b ≤ m)).map V.int)) (LcP.start hD tb rfl) (fun i H' _ p => SqL.of (p.kp.lst ha)) (fun i x H' H2 hi p y => ?_) (fun H' p => ?_)⟩
    · obtain ⟨rfl, hx⟩ := y
      obtain ⟨b, hb, rfl⟩ := map_get hx
      obtain ⟨acc, h1, rfl⟩ := p.at_
      refine ⟨rfl, _, rfl, _, rfl, _, _, rfl, rfl, _, rfl, ?_⟩
      by_cases c : b ≤ m
      · refine ifT (decide_eq_true c) ?_
        refine ⟨_, rfl, p.app Kp.refl h1 ?_ ?_⟩
        · rw [List.length_map]
          refine small (Nat.le_trans (List.length_filter_le _ _) ?_)
          rw [List.length_take]
          omega
        · rw [take_snoc hb, List.filter_append, List.map_append]
          simp [c]
      · refine ifF (decide_eq_false c) ?_
        refine p.skip Kp.refl h1 ?_
        rw [take_snoc hb, List.filter_append, List.map_append]
        simp [c]
    · obtain ⟨acc, h1, rfl⟩ := p.at_
      refine ⟨D, _, rfl, .inl (SqL.of h1), _, _, rfl, rfl, ?_, _, _, rfl, rfl, ?_⟩
      · show (0 : Int) < 2
        decide
      · have e : (hasI ns m) = decide (((((List.map V.int (List.filter (fun b => decide (b ≤ m)) (List.take (List.map V.int ns).length ns))).length : Nat) : Int) % 2 = 1)) := by
          rw [par_int, List.length_map, List.length_map, List.take_length]
          rfl
        have z := k _ p.kp
        rw [e] at z
        exact z
end
end Ms
end

/-! text W2 -/
section
set_option Elab.async false
set_option linter.all false
set_option maxRecDepth 100000
set_option maxHeartbeats 4000000
namespace Ms
open PySem PySem.Spec PyProof.Rows L2
/-- the pieces of bounds -/
def pcs : List Int → List Pc
  | [] => []
  | [a] => [(a, none)]
  | a :: b :: r => (a, some b) :: pcs r
theorem pcs_zip : ∀ ns : List Int, (Ms.ev2 (ns.map V.int)).zip (Ms.ev2 ((ns.map V.int).drop 1) ++ if endI ns = true then [V.non] else []) = (pcs ns).map fun x => (V.int x.1, endV x.2)
  | [] => rfl
  | [a] => rfl
  | a :: b :: r => by
    have ih := pcs_zip r
    have e : endI (a :: b :: r) = endI r := by
      unfold endI
      rw [List.length_cons, List.length_cons, par_succ, par_succ, Bool.not_not]
    rw [e]
    cases r with
    | nil => rfl
    | cons c r2 =>
      show (V.int a, V.int b) :: _ = (V.int a, V.int b) :: _
      rw [← ih]
      rfl
theorem ev2_len {α : Type} (l : List α) : (ev2 l).length ≤ l.length := ev2_length l
section
variable {P : Program} {w : World} {K : PySem.W.Frag} {mg : Str → Option Value} {base : Heap} {J : Addr}
/-! is_endless -/
def spEnd (J : Addr) : Sp := fun vs H Q _ => ∃ (a : Addr) (ns : List Int), vs = [.ref a] ∧ IL H a ns ∧ Q (.bl (endI ns)) H
theorem sc_end : FnScope ["bounds"] ["bounds"] (defScope (top 4)) := ⟨rfl, rfl, rfl, by decide +kernel, rfl, by decide +kernel, by decide +kernel⟩
theorem ok_end (d : DefAt K "is_endless" (top 4)) (G : Gm K mg) (B : Bi mg) : Fn P w K mg base CX0 1 "is_endless" ["bounds"] (spEnd J) := by
  refine d.fn G sc_end (fun _ _ _ _ _ _ us hl => match us, hl with | [_], _ => rfl) (fun vs H Q E h => ?_) (fun f cdv A outer s H vs Q E hr h => ?_)
  · obtain ⟨a, ns, rfl, _⟩ := h
    rfl
  · obtain ⟨a, ns, rfl, ha, k⟩ := h
    refine ⟨_, pss_one (ps_ret (pe_cmp (pc_eqI (pe_op op_mod (pe_callB call_len_seq (by rfl) B.len PySem.boot_len (pa_cons (pv 0) pa_nil)) pe_int) pe_int))), ?_⟩
    refine ⟨_, rfl, a, _, rfl, .inl (SqL.of ha), _, _, rfl, rfl, ?_, _, _, rfl, rfl, ?_⟩
    · show (0 : Int) < 2
      decide
    · have e : endI ns = decide (((ns.map V.int).length : Int) % 2 = 1) := by
        rw [par_int, List.length_map]
        rfl
      rw [e] at k
      exact k
/-! pieces_of -/
def spPcs (J : Addr) : Sp := fun vs H Q _ => ∃ (a : Addr) (ns : List Int), vs = [.ref a] ∧ IL H a ns ∧ ns.length ≤ 100000 ∧ ∀ H' p, Kp J H H' → PL H' p (pcs ns) → Q (.ref p) H'
theorem sc_pcs : FnScope ["bounds", "ends"] ["bounds"] (defScope (top 5)) := ⟨rfl, rfl, rfl, by decide +kernel, rfl, by decide +kernel, by decide +kernel⟩
theorem paired_pc {H : Hp} : ∀ {ts : List Addr} {l : List Pc}, Paired (fun t (q : V × V) => H t = some (.tup [q.1, q.2])) ts (l.map fun x => (V.int x.1, endV x.2)) → Paired (PcAt H) ts l
  | [], [], _ => .nil
  | _ :: _, [], h => by cases h
  | [], _ :: _, h => by cases h
  | _ :: _, _ :: _, h => by
    cases h with
    | cons h1 h2 => exact .cons h1 (paired_pc h2)
theorem ok_pcs (d : DefAt K "pieces_of" (top 5)) (G : Gm K mg) (B : Bi mg) (F : Fn P w K mg base CX0 1 "is_endless" ["bounds"] (spEnd J)) : Fn P w K mg base CX0 2 "pieces_of" ["bounds"] (spPcs J) := by
  refine d.fn G sc_pcs (fun _ _ _ _ _ _ us hl => match us, hl with | [_], _ => rfl) (fun vs H Q E h => ?_) (fun f cdv A outer s H vs Q E hr h => ?_)
  · obtain ⟨a, ns, rfl, _⟩ := h
    rfl
  · obtain ⟨a, ns, rfl, ha, hl, k⟩ := h
    refine ⟨_, pss_cons (ps_set (i := 1) sc_pcs.nd rfl (Or.inl rfl) (pe_sl2 (k := 1) (pv 0)))
      (pss_cons (ps_if (pt_val (pe_fn F hr (pa_cons (pv 0) pa_nil))) (pss_one (ps_set (i := 1) sc_pcs.nd rfl (Or.inl rfl) (pe_op op_cat (pv 1) (pe_lst (pa_cons pe_non pa_nil))))) pss_nil)
      (pss_one (ps_ret (pe_listZip rfl (by rfl) B.list (by rfl) B.zip (pa_cons (pe_sl2 (k := 0) (pv 0)) (pa_cons (pv 1) pa_nil)))))), ?_⟩
    have l2 : (ev2 ((ns.map V.int).drop 1)).length ≤ 100000 := Nat.le_trans (ev2_len _) (by rw [List.length_drop, List.length_map]; omega)
    refine ⟨_, rfl, a, _, rfl, SqL.of ha, fun p hp => ?_⟩
    have ha1 : upd H p (.lst (ev2 ((ns.map V.int).drop 1))) a = some (.lst (ns.map V.int)) := by rw [upd_ne (ne_of_none ha hp)]; exact ha
    refine ⟨_, rfl, a, ns, rfl, ha1, _, rfl, ?_⟩
    have fin : ∀ (H2 : Hp) (q : Addr) (es : List V), Kp J H H2 → H2 q = some (.lst es) → es = ev2 ((ns.map V.int).drop 1) ++ (if endI ns = true then [V.non] else []) →
        (tRet (tLz K (tCons (tSl2 K 0 (tVar 0)) (tCons (tVar 1) tNil)))) { nx := fun _ H' => Q .non H', rt := Q } [some (.ref a), some (.ref q)] H2 := fun H2 q es k2 hq he => by
      refine ⟨_, rfl, a, _, rfl, SqL.of (k2.lst ha), fun r hr2 => ⟨_, rfl, ?_⟩⟩
      refine ⟨r, q, _, es, rfl, SqL.of upd_same, SqL.of (by rw [upd_ne (ne_of_none hq hr2)]; exact hq), fun H3 p3 ts sm hp3 hl3 hpair => ?_⟩
      rw [he, List.drop_zero, pcs_zip] at hpair
      exact k H3 p3 ((k2.trans (Kp.new hr2)).trans (Kp.same sm)) ⟨ts, hl3, paired_pc hpair⟩
    cases c : endI ns with
    | true =>
      refine ifT rfl ⟨_, rfl, ?_, fun q hq => ⟨p, q, ev2 ((ns.map V.int).drop 1), [V.non], rfl, rfl, same_upd hq _ _ upd_same, upd_same, ?_, fun r hr2 => ?_⟩⟩
      · show 1 ≤ sizeLine
        decide
      · exact Nat.le_trans (Nat.add_le_add l2 (Nat.le_refl 1)) (by decide)
      · refine fin _ r _ (((Kp.new hp).trans (Kp.new hq)).trans (Kp.new hr2)) upd_same ?_
        rw [c]
        simp
    | false =>
      refine ifF rfl (fin _ p _ (Kp.new hp) upd_same ?_)
      rw [c]
      simp
end
end Ms
end

/-! text W3 -/
section
set_option Elab.async false
set_option linter.all false
set_option maxRecDepth 100000
set_option maxHeartbeats 4000000
namespace Ms
open PySem PySem.Spec PyProof.Rows L2
/-! ### data that is compared -/
def endD : Option Int → PyData
  | none => .none
  | some e => .int e
def pcD (x : Pc) : PyData := .tuple [.int x.1, endD x.2]
section
variable {K : PySem.W.Frag} {H : Hp}
theorem dp_end (e : Option Int) : Dp K H (endV e) (endD e) := by
  cases e with
  | none => exact .non
  | some e => exact .int e
theorem dp_pcs : ∀ {ts : List Addr} {l : List Pc}, Paired (PcAt H) ts l → DpAll K H (ts.map V.ref) (l.map pcD)
  | _, _, .nil => .nil
  | _, _, .cons h r => .cons (.tup (SqT.of h) (.cons (.int _) (.cons (dp_end _) .nil))) (dp_pcs r)
theorem dp_pl {a : Addr} {l : List Pc} (h : PL H a l) : Dp K H (.ref a) (.list (l.map pcD)) := let ⟨_, h1, h2⟩ := h; .lst (SqL.of h1) (dp_pcs h2)
theorem dp_ints : ∀ ns : List Int, DpAll K H (ns.map V.int) (ns.map PyData.int)
  | [] => .nil
  | n :: r => .cons (.int n) (dp_ints r)
theorem dp_il {a : Addr} {ns : List Int} (h : IL H a ns) : Dp K H (.ref a) (.list (ns.map PyData.int)) := .lst (SqL.of h) (dp_ints ns)
end
theorem sh_of {ds : List PyData} (h1 : PyData.canLayAll0 ds = true) (h2 : PyData.depthAll ds ≤ 60) : SeqAt.shaped (.list ds) = true := by
  unfold SeqAt.shaped
  rw [Bool.and_eq_true]
  refine ⟨?_, decide_eq_true ?_⟩
  · simpa only [PyData.canLay0] using h1
  · simp only [PyData.depth]; omega
theorem sh_pcs (l : List Pc) : SeqAt.shaped (.list (l.map pcD)) = true := by
  refine sh_of ?_ ?_
  · induction l with
    | nil => simp [PyData.canLayAll0]
    | cons x r ih =>
      obtain ⟨b, e⟩ := x
      cases e <;> simp [PyData.canLayAll0, PyData.canLay0, pcD, endD] at ih ⊢ <;> exact ih
  · have : PyData.depthAll (l.map pcD) ≤ 1 := by
      induction l with
      | nil => simp [PyData.depthAll]
      | cons x r ih =>
        obtain ⟨b, e⟩ := x
        cases e <;> simp [PyData.depthAll, PyData.depth, pcD, endD] at ih ⊢ <;> omega
    omega
theorem sh_ints (ns : List Int) : SeqAt.shaped (.list (ns.map PyData.int)) = true := by
  refine sh_of ?_ ?_
  · induction ns with
    | nil => simp [PyData.canLayAll0]
    | cons x r ih => simp [PyData.canLayAll0, PyData.canLay0] at ih ⊢; exact ih
  · have : PyData.depthAll (ns.map PyData.int) ≤ 0 := by
      induction ns with
      | nil => simp [PyData.depthAll]
      | cons x r ih => simp [PyData.depthAll, PyData.depth] at ih ⊢; exact ih
    omega
theorem eqv_nil {ds : List PyData} : PyData.eqv (.list ds) (.list []) = ds.isEmpty := by
  cases ds <;> simp [PyData.eqv, PyData.eqvAll]
theorem eqv_ints : ∀ (ns ms : List Int), PyData.eqv (.list (ns.map PyData.int)) (.list (ms.map PyData.int)) = decide (ns = ms) := by
  have h : ∀ (ns ms : List Int), PyData.eqvAll (ns.map PyData.int) (ms.map PyData.int) = decide (ns = ms) := by
    intro ns
    induction ns with
    | nil => intro ms; cases ms <;> simp [PyData.eqvAll]
    | cons n r ih =>
      intro ms
      cases ms with
      | nil => simp [PyData.eqvAll]
      | cons m q =>
        simp only [List.map_cons, PyData.eqvAll, PyData.eqv, ih q]
        rw [Bool.eq_iff_iff]
        simp
  intro ns ms
  simp only [PyData.eqv, h]
section
variable {P : Program} {w : World} {K : PySem.W.Frag} {mg : Str → Option Value} {base : Heap} {J : Addr}
/-! reaches -/
def spReach : Sp := fun vs H Q _ => ∃ (e : Option Int) (b : Int), vs = [endV e, .int b] ∧ Q (.bl (reach e b)) H
theorem sc_reach : FnScope ["end", "begin"] ["end", "begin"] (defScope (top 6)) := ⟨rfl, rfl, rfl, by decide +kernel, rfl, by decide +kernel, by decide +kernel⟩
theorem ok_reach (d : DefAt K "reaches" (top 6)) (G : Gm K mg) : Fn P w K mg base CX0 1 "reaches" ["end", "begin"] spReach := by
  refine d.fn G sc_reach (fun _ _ _ _ _ _ us hl => match us, hl with | [_, _], _ => rfl) (fun vs H Q E h => ?_) (fun f cdv A outer s H vs Q E hr h => ?_)
  · obtain ⟨e, b, rfl, _⟩ := h
    rfl
  · obtain ⟨e, b, rfl, k⟩ := h
    refine ⟨_, pss_one (ps_ret (pe_or (pe_cmp (pc_isN (pv 0))) (pe_one (pe_cmp (pc_ge (pv 0) (pv 1)))))), ?_⟩
    cases e with
    | none => exact ⟨_, rfl, _, rfl, ifT rfl k⟩
    | some e => exact ⟨_, rfl, _, rfl, ifF rfl ⟨_, rfl, _, rfl, _, _, rfl, rfl, k⟩⟩
/-! later_end -/
def spLater : Sp := fun vs H Q _ => ∃ (a b : Option Int), vs = [endV a, endV b] ∧ Q (endV (laterE a b)) H
theorem sc_later : FnScope ["one", "other"] ["one", "other"] (defScope (top 7)) := ⟨rfl, rfl, rfl, by decide +kernel, rfl, by decide +kernel, by decide +kernel⟩
theorem ok_laterE (d : DefAt K "later_end" (top 7)) (G : Gm K mg) (B : Bi mg) : Fn P w K mg base CX0 1 "later_end" ["one", "other"] spLater := by
  refine d.fn G sc_later (fun _ _ _ _ _ _ us hl => match us, hl with | [_, _], _ => rfl) (fun vs H Q E h => ?_) (fun f cdv A outer s H vs Q E hr h => ?_)
  · obtain ⟨a, b, rfl, _⟩ := h
    rfl
  · obtain ⟨a, b, rfl, k⟩ := h
    refine ⟨_, pss_cons (ps_if (PW.pt (pw_or (pt_cmp (pc_isN (pv 0))) (pw_or1 (pt_cmp (pc_isN (pv 1)))))) (pss_one (ps_ret pe_non)) pss_nil)
      (pss_one (ps_ret (pe_callB (call_max2 rfl) (by rfl) B.max (by decide +kernel) (pa_cons (pv 0) (pa_cons (pv 1) pa_nil))))), ?_⟩
    cases a with
    | none => cases b <;> exact ⟨_, rfl, _, rfl, ifT rfl (ifT rfl k)⟩
    | some a =>
      cases b with
      | none => exact ⟨_, rfl, _, rfl, ifF rfl ⟨_, rfl, _, rfl, ifT rfl k⟩⟩
      | some b => exact ⟨_, rfl, _, rfl, ifF rfl ⟨_, rfl, _, rfl, ifF rfl ⟨_, rfl, _, rfl, _, _, rfl, k⟩⟩⟩
end
end Ms
end

/-! text W4 -/
section
set_option Elab.async false
set_option linter.all false
set_option maxRecDepth 100000
set_option maxHeartbeats 4000000
namespace Ms
open PySem PySem.Spec PyProof.Rows L2
def leB (x y : Pc) : Bool := decide (x.1 ≤ y.1)
/-- what joined makes of pieces -/
def joinI (l : List Pc) : List Pc := joinOf (l.mergeSort leB)
/-- what bounds_of makes of pieces -/
def boundsI (l : List Pc) : List Int := bOf (joinI l)
theorem jStep_length (f : List Pc) (x : Pc) : (jStep f x).length ≤ f.length + 1 := by
  unfold jStep
  cases h : f.getLast? with
  | none => simp
  | some y =>
    simp only
    split
    · rw [List.length_append, List.length_dropLast]
      simp
    · simp
theorem join_length (l f : List Pc) : (l.foldl jStep f).length ≤ f.length + l.length := by
  induction l generalizing f with
  | nil => simp
  | cons x r ih =>
    rw [List.foldl_cons]
    have h1 := ih (jStep f x)
    have h2 := jStep_length f x
    rw [List.length_cons]
    omega
theorem joinI_length (l : List Pc) : (joinI l).length ≤ l.length := by
  have := join_length (l.mergeSort leB) []
  rw [List.length_mergeSort] at this
  simpa [joinI, joinOf] using this
/-- sorting addresses by the begins of their pieces -/
theorem sort_pcs {H : Hp} {ts : List Addr} {l : List Pc} (h : Paired (PcAt H) ts l) :
    ∃ ts' : List Addr, (((ts.zip (l.map (·.1))).mergeSort fun x y => decide (x.2 ≤ y.2)).map fun t => V.ref t.1) = ts'.map V.ref ∧ Paired (PcAt H) ts' (l.mergeSort leB) := by
  have key : ∀ zs : List (Addr × Pc), (∀ z ∈ zs, PcAt H z.1 z.2) → Paired (PcAt H) ((zs.mergeSort fun x y => leB x.2 y.2).map (·.1)) ((zs.map (·.2)).mergeSort leB) ∧
      ((zs.map fun z => (z.1, z.2.1)).mergeSort fun x y => decide (x.2 ≤ y.2)) = (zs.mergeSort fun x y => leB x.2 y.2).map fun z => (z.1, z.2.1) := fun zs hz => by
    constructor
    · rw [← List.map_mergeSort (r := fun x y : Addr × Pc => leB x.2 y.2) (fun a _ b _ => rfl)]
      have hm : ∀ z ∈ (zs.mergeSort fun x y => leB x.2 y.2), PcAt H z.1 z.2 := fun z h => hz z (List.mem_mergeSort.mp h)
      generalize (zs.mergeSort fun x y => leB x.2 y.2) = q at hm
      induction q with
      | nil => exact .nil
      | cons a r ih => exact .cons (hm a (by simp)) (ih fun z h => hm z (by simp [h]))
    · exact (List.map_mergeSort (r := fun x y : Addr × Pc => leB x.2 y.2) (s := fun x y : Addr × Int => decide (x.2 ≤ y.2)) (f := fun z : Addr × Pc => (z.1, z.2.1)) (l := zs) (fun a _ b _ => rfl)).symm
  have hz : ∀ {ts : List Addr} {l : List Pc}, Paired (PcAt H) ts l → (∀ z ∈ ts.zip l, PcAt H z.1 z.2) ∧ (ts.zip l).map (·.2) = l ∧ (ts.zip l).map (fun z => (z.1, z.2.1)) = ts.zip (l.map (·.1)) := fun {ts l} h => by
    induction h with
    | nil => exact ⟨fun z h => by simp at h, rfl, rfl⟩
    | cons h1 h2 ih =>
      refine ⟨fun z hz => ?_, ?_, ?_⟩
      · rcases List.mem_cons.mp hz with rfl | hz
        · exact h1
        · exact ih.1 z hz
      · rw [List.zip_cons_cons, List.map_cons, ih.2.1]
      · rw [List.zip_cons_cons, List.map_cons, ih.2.2]
        rfl
  obtain ⟨h1, h2, h3⟩ := hz h
  obtain ⟨k1, k2⟩ := key (ts.zip l) h1
  rw [h2] at k1
  rw [h3] at k2
  refine ⟨_, ?_, k1⟩
  rw [k2, List.map_map, List.map_map]
  rfl
section
variable {P : Program} {w : World} {K : PySem.W.Frag} {mg : Str → Option Value} {base : Heap} {J : Addr}
/-! joined -/
def spJoin (J : Addr) : Sp := fun vs H Q _ => ∃ (a : Addr) (l : List Pc), vs = [.ref a] ∧ PL H a l ∧ l.length ≤ 100000 ∧ Tab J H ∧ ∀ H' p, Kp J H H' → PL H' p (joinI l) → Q (.ref p) H'
theorem sc_join : FnScope ["pieces", "found", "begin", "end"] ["pieces"] (defScope (top 8)) := ⟨rfl, rfl, rfl, by decide +kernel, rfl, by decide +kernel, by decide +kernel⟩
structure JnP (J : Addr) (H : Hp) (a p fo : Addr) (ts : List Addr) (l : List Pc) (i : Nat) (σ : L2.St) (H' : Hp) : Prop where
  ex : ∃ (v2 v3 : Option V) (us : List Addr), σ = [some (.ref a), some (.ref fo), v2, v3] ∧ Kp J H H' ∧ Tab J H' ∧ H' p = some (.lst (ts.map V.ref)) ∧ Paired (PcAt H') ts l ∧ H' fo = some (.lst (us.map V.ref)) ∧ Paired (PcAt H') us ((l.take i).foldl jStep []) ∧ us.length ≤ i
theorem paired_len {α β : Type} {R : α → β → Prop} {l : List α} {r : List β} (h : Paired R l r) : l.length = r.length := Paired.length h
theorem paired_last {α β : Type} {R : α → β → Prop} {l : List α} {r : List β} {b : β} (h : Paired R l (r ++ [b])) : ∃ l0 a, l = l0 ++ [a] ∧ Paired R l0 r ∧ R a b := by
  induction r generalizing l with
  | nil =>
    cases h with
    | cons h1 h2 =>
      cases h2
      exact ⟨[], _, rfl, .nil, h1⟩
  | cons x r ih =>
    cases h with
    | cons h1 h2 =>
      obtain ⟨l0, a, e, h3, h4⟩ := ih h2
      exact ⟨_ :: l0, a, by rw [e]; rfl, .cons h1 h3, h4⟩
theorem ok_join {c : Addr} (d : DefAtC K "joined" (top 8) c) (G : Gm K mg) (B : Bi mg) (TB : LamX.TabB base mg c J) (F1 : Fn P w K mg base CX0 1 "reaches" ["end", "begin"] spReach) (F2 : Fn P w K mg base CX0 1 "later_end" ["one", "other"] spLater) :
    Fn P w K mg base CX0 2 "joined" ["pieces"] (spJoin J) := by
  refine d.fn G sc_join (fun _ _ _ _ _ _ us hl => match us, hl with | [_], _ => rfl) (fun vs H Q E h => ?_) (fun f A outer s H vs Q E hr h => ?_)
  · obtain ⟨a, ns, rfl, _⟩ := h
    rfl
  · obtain ⟨a, l, rfl, ⟨ts, ha, hts⟩, hl, tb, k⟩ := h
    refine ⟨_, pss_cons (ps_set (i := 1) sc_join.nd rfl (Or.inl rfl) (pe_lst pa_nil))
      (pss_cons (ps_for PassesOwn.never rfl (pi_list (LamX.pe_sortLam (c := c) (P := J) rfl (by rfl) B.sorted TB rfl hr (pv 0))) (pg_tup rfl (pgs_cons (pg_name (i := 2) sc_join.nd rfl (Or.inl rfl)) (pgs_cons (pg_name (i := 3) sc_join.nd rfl (Or.inl rfl)) pgs_nil)))
        (pss_one (ps_if (PW.pt (pw_and (pt_cmpR (op_neD hr.units) (pv 1) (pe_lst pa_nil) (nomark _)) (pw_and1 (pt_val (pe_fn F1 hr (pa_cons (pe_ix ix_tup (pe_ix ix_list (pv 1) (pe_un un_neg pe_int) (fun _ _ => rfl)) pe_int (fun _ _ => rfl)) (pa_cons (pv 2) pa_nil)))))))
          (pss_one (ps_asg (pe_tup (pa_cons (pe_ix ix_tup (pe_ix ix_list (pv 1) (pe_un un_neg pe_int) (fun _ _ => rfl)) pe_int (fun _ _ => rfl)) (pa_cons (pe_fn F2 hr (pa_cons (pe_ix ix_tup (pe_ix ix_list (pv 1) (pe_un un_neg pe_int) (fun _ _ => rfl)) pe_int (fun _ _ => rfl)) (pa_cons (pv 3) pa_nil))) pa_nil))) (pg_sub (pv 1) (pe_un un_neg pe_int) set_list)))
          (pss_one (ps_expr (pe_bm PySem.F.plainAttrs_list PySem.F.slot_list_append PySem.F.type_list_append mt_append (pv 1) (pa_cons (pe_tup (pa_cons (pv 2) (pa_cons (pv 3) pa_nil))) pa_nil)))))))
      (pss_one (ps_ret (pv 1)))), ?_⟩
    refine ⟨?_, fun fo hfo => ?_⟩
    · show 0 ≤ sizeLine
      decide
    have k0 : Kp J H (upd H fo (.lst [])) := Kp.new hfo
    have ha0 := k0.lst ha
    have hts0 := k0.pcs hts
    refine ⟨_, rfl, a, ts.zip (l.map (·.1)), rfl, ?_, ?_, k0.tab tb, fun H2 p e2 t2 hp => ?_⟩
    · rw [show (ts.zip (l.map (·.1))).map (fun t => V.ref t.1) = ts.map V.ref from by
        rw [show (fun t : Addr × Int => V.ref t.1) = V.ref ∘ Prod.fst from rfl, ← List.map_map, List.map_fst_zip (by rw [List.length_map, paired_len hts]; exact Nat.le_refl _)]]
      exact SqL.of ha0
    · intro t ht
      obtain ⟨j, hj⟩ := List.mem_iff_getElem?.mp ht
      obtain ⟨t1, n1⟩ := t
      rw [List.getElem?_zip_eq_some] at hj
      obtain ⟨x, hx, hpx⟩ := paired_get hts0 hj.1
      obtain ⟨y, hy, e⟩ := map_get hj.2
      rw [hx] at hy
      cases hy
      exact ⟨endV x.2, SqT.of (by rw [e]; exact hpx)⟩
    · have k2 : Kp J (upd H fo (.lst [])) H2 := ⟨e2, fun _ => t2⟩
      obtain ⟨ts', et, hts'⟩ := sort_pcs (k2.pcs hts0)
      have hfo2 : H2 fo = some (.lst []) := k2.lst upd_same
      have npf : p ≠ fo := fun z => by rw [z, hfo2] at hp; cases hp
      rw [et]
      refine ⟨p, rfl, ⟨_, SqL.of upd_same⟩, for_it (walk_list (K := K) (a := p) (xs := ts'.map V.ref)) (JnP J H a p fo ts' (l.mergeSort leB))
        ⟨none, none, [], rfl, (k0.trans k2).trans (Kp.new hp), tab_new t2 hp, upd_same, (Kp.new hp : Kp J H2 _).pcs hts', by rw [upd_ne (Ne.symm npf)]; exact hfo2, .nil, Nat.le_refl _⟩ (fun i σ H' _ q => SqL.of q.ex.choose_spec.choose_spec.choose_spec.2.2.2.1) (fun i x σ H' H3 hi q y => ?_) (fun σ H' q => ?_)⟩
      · obtain ⟨v2, v3, us, rfl, kk, tk, hp', hpl, hfo', hus, hlen⟩ := q.ex
        obtain ⟨rfl, hx⟩ := y
        obtain ⟨t, ht, rfl⟩ := map_get hx
        obtain ⟨z, hz, hzt⟩ := paired_get hpl ht
        refine ⟨t, _, rfl, SqT.of hzt, rfl, _, _, rfl, _, _, rfl, rfl, ?_⟩
        have step : ((l.mergeSort leB).take (i + 1)).foldl jStep [] = jStep (((l.mergeSort leB).take i).foldl jStep []) z := by
          rw [take_snoc hz, List.foldl_append]
          rfl
        have hi' : i < 100000 := by
          have := paired_len hpl
          rw [List.length_mergeSort] at this
          rw [List.length_map] at hi
          omega
        refine ⟨_, rfl, ?_, fun n hn => ?_⟩
        · show 0 ≤ sizeLine
          decide
        have kn : Kp J H3 (upd H3 n (.lst [])) := Kp.new hn
        generalize hg : ((l.mergeSort leB).take i).foldl jStep [] = g at hus step
        refine ⟨_, _, dp_pl (K := K) ⟨us, kn.lst hfo', kn.pcs hus⟩, Dp.lst (SqL.of upd_same) .nil, sh_pcs _, rfl, _, rfl, ?_⟩
        rcases List.eq_nil_or_concat g with rfl | ⟨g0, y, rfl⟩
        · cases hus
          refine ifF (by rw [eqv_nil]; rfl) (ifF rfl ?_)
          refine ⟨_, rfl, .inl ⟨rfl, _, SqL.of (kn.lst hfo')⟩, _, rfl, _, rfl, ?_, fun m hm => ?_⟩
          · show 2 ≤ sizeLine
            decide
          have km : Kp J (upd H3 n (.lst [])) (upd (upd H3 n (.lst [])) m (.tup [.int z.1, endV z.2])) := Kp.new hm
          have hfm := (kn.trans km).lst hfo'
          refine ⟨fo, _, _, rfl, rfl, hfm, ?_, ⟨_, _, [m], rfl, kp_own ((kk.trans kn).trans km) hfo hfm, tab_upd ((kn.trans km).tab tk) hfm, ?_, (tk_upd hfm).pcs ((kn.trans km).pcs hpl), upd_same, ?_, ?_⟩⟩
          · show 0 < sizeLine
            decide
          · rw [upd_ne npf]
            exact (kn.trans km).lst hp'
          · rw [step]
            exact .cons (tk_upd hfm _ _ upd_same) .nil
          · show 1 ≤ i + 1
            omega
        · rw [List.concat_eq_append] at hus step
          obtain ⟨us0, u, rfl, hus0, hu⟩ := paired_last hus
          have efo : (us0 ++ [u]).map V.ref = us0.map V.ref ++ [V.ref u] := by simp
          rw [jStep_snoc] at step
          refine ifT (by rw [eqv_nil]; simp) ?_
          have g1 : ∀ H4 : Hp, Kp J H3 H4 → ∃ p xs i v, V.ref fo = V.ref p ∧ (V.int (-1)) = V.int i ∧ SqL K H4 p xs ∧ atI xs i = some v ∧ v = V.ref u := fun H4 k4 => ⟨fo, _, -1, V.ref u, rfl, rfl, SqL.of (k4.lst hfo'), by rw [efo]; exact atI_last _ _, rfl⟩
          refine ⟨_, rfl, 1, rfl, fo, _, -1, V.ref u, rfl, rfl, SqL.of (kn.lst hfo'), by rw [efo]; exact atI_last _ _, u, _, 1, endV y.2, rfl, rfl, SqT.of (kn.pc hu), by exact atI_nat rfl, _, rfl, y.2, z.1, rfl, _, rfl, ?_⟩
          cases c : reach y.2 z.1 with
          | true =>
            rw [c, if_pos rfl] at step
            refine ifT rfl ?_
            refine ⟨_, rfl, 1, rfl, fo, _, -1, V.ref u, rfl, rfl, SqL.of (kn.lst hfo'), by rw [efo]; exact atI_last _ _, u, _, 0, V.int y.1, rfl, rfl, SqT.of (kn.pc hu), by exact atI_nat rfl, ?_⟩
            refine ⟨_, rfl, 1, rfl, fo, _, -1, V.ref u, rfl, rfl, SqL.of (kn.lst hfo'), by rw [efo]; exact atI_last _ _, u, _, 1, endV y.2, rfl, rfl, SqT.of (kn.pc hu), by exact atI_nat rfl, _, rfl, y.2, z.2, rfl, ?_, fun m hm => ?_⟩
            · show 2 ≤ sizeLine
              decide
            have km : Kp J (upd H3 n (.lst [])) (upd (upd H3 n (.lst [])) m (.tup [.int y.1, endV (laterE y.2 z.2)])) := Kp.new hm
            have hfm := (kn.trans km).lst hfo'
            refine ⟨_, rfl, 1, rfl, fo, _, -1, us0.length, rfl, rfl, hfm, ?_, ⟨_, _, us0 ++ [m], rfl, kp_own ((kk.trans kn).trans km) hfo hfm, tab_upd ((kn.trans km).tab tk) hfm, ?_, (tk_upd hfm).pcs ((kn.trans km).pcs hpl), ?_, ?_, ?_⟩⟩
            · rw [List.length_map, List.length_append]
              unfold ixN
              rw [if_neg (by decide), if_pos (by simp; omega)]
              congr 1
              simp
              omega
            · rw [upd_ne npf]
              exact (kn.trans km).lst hp'
            · rw [upd_same, efo]
              congr 2
              rw [List.set_append_right _ _ (by rw [List.length_map]; exact Nat.le_refl _), List.length_map, Nat.sub_self]
              simp
            · rw [step]
              exact paired_snoc ((tk_upd hfm).pcs ((kn.trans km).pcs hus0)) (tk_upd hfm _ _ upd_same)
            · rw [List.length_append] at hlen ⊢
              simp at hlen ⊢
              omega
          | false =>
            rw [c, if_neg Bool.false_ne_true] at step
            refine ifF rfl ?_
            refine ⟨_, rfl, .inl ⟨rfl, _, SqL.of (kn.lst hfo')⟩, _, rfl, _, rfl, ?_, fun m hm => ?_⟩
            · show 2 ≤ sizeLine
              decide
            have km : Kp J (upd H3 n (.lst [])) (upd (upd H3 n (.lst [])) m (.tup [.int z.1, endV z.2])) := Kp.new hm
            have hfm := (kn.trans km).lst hfo'
            refine ⟨fo, _, _, rfl, rfl, hfm, ?_, ⟨_, _, us0 ++ [u] ++ [m], rfl, kp_own ((kk.trans kn).trans km) hfo hfm, tab_upd ((kn.trans km).tab tk) hfm, ?_, (tk_upd hfm).pcs ((kn.trans km).pcs hpl), ?_, ?_, ?_⟩⟩
            · rw [List.length_map]
              exact small (by omega)
            · rw [upd_ne npf]
              exact (kn.trans km).lst hp'
            · rw [upd_same, List.map_append (l₁ := us0 ++ [u])]
              rfl
            · rw [step]
              exact paired_snoc ((tk_upd hfm).pcs ((kn.trans km).pcs hus)) (tk_upd hfm _ _ upd_same)
            · rw [List.length_append] at hlen ⊢
              simp at hlen ⊢
              omega
      · obtain ⟨v2, v3, us, rfl, kk, tk, hp', hpl, hfo', hus, hlen⟩ := q.ex
        refine ⟨_, rfl, k _ fo kk ⟨us, hfo', ?_⟩⟩
        rw [List.take_of_length_le (by rw [List.length_map, paired_len hpl]; exact Nat.le_refl _)] at hus
        exact hus
end
end Ms
end

/-! text W5 -/
section
set_option Elab.async false
set_option linter.all false
set_option maxRecDepth 100000
set_option maxHeartbeats 4000000
namespace Ms
open PySem PySem.Spec PyProof.Rows L2
section
variable {P : Program} {w : World} {K : PySem.W.Frag} {mg : Str → Option Value} {base : Heap} {J : Addr}
/-- no list stands there -/
def NL (H : Hp) (p : Addr) : Prop := ∀ xs, H p ≠ some (.lst xs)
theorem NL.new {H : Hp} {p : Addr} (h : H p = none) : NL H p := fun xs z => by rw [h] at z; cases z
theorem NL.back {J : Addr} {H H' : Hp} {p : Addr} (n : NL H' p) (k : Kp J H H') : NL H p := fun xs z => n xs (k.lst z)
theorem NL.ne {H : Hp} {p q : Addr} {xs : List V} (n : NL H p) (h : H q = some (.lst xs)) : q ≠ p := fun z => n xs (by rw [← z]; exact h)
/-! bounds_of -/
def spBnd (J : Addr) : Sp := fun vs H Q _ => ∃ (a : Addr) (l : List Pc), vs = [.ref a] ∧ PL H a l ∧ l.length ≤ 40000 ∧ Tab J H ∧ ∀ H' p, Kp J H H' → Tab J H' → NL H p → IL H' p (boundsI l) → Q (.ref p) H'
theorem sc_bnd : FnScope ["pieces", "found", "begin", "end"] ["pieces"] (defScope (top 9)) := ⟨rfl, rfl, rfl, by decide +kernel, rfl, by decide +kernel, by decide +kernel⟩
theorem bOf_length (l : List Pc) : (bOf l).length ≤ 2 * l.length := by
  induction l with
  | nil => simp [bOf]
  | cons x r ih =>
    rw [bOf_cons, List.length_append, List.length_cons, List.length_cons]
    cases x.2 <;> simp <;> omega
structure BnP (J : Addr) (H : Hp) (a p fo : Addr) (ts : List Addr) (l : List Pc) (i : Nat) (σ : L2.St) (H' : Hp) : Prop where
  ex : ∃ (v2 v3 : Option V), σ = [some (.ref a), some (.ref fo), v2, v3] ∧ Kp J H H' ∧ Tab J H' ∧ H' p = some (.lst (ts.map V.ref)) ∧ Paired (PcAt H') ts l ∧ IL H' fo (bOf (l.take i))
theorem ok_bnd (d : DefAt K "bounds_of" (top 9)) (G : Gm K mg) (F : Fn P w K mg base CX0 2 "joined" ["pieces"] (spJoin J)) : Fn P w K mg base CX0 3 "bounds_of" ["pieces"] (spBnd J) := by
  refine d.fn G sc_bnd (fun _ _ _ _ _ _ us hl => match us, hl with | [_], _ => rfl) (fun vs H Q E h => ?_) (fun f cdv A outer s H vs Q E hr h => ?_)
  · obtain ⟨a, ns, rfl, _⟩ := h
    rfl
  · obtain ⟨a, l, rfl, ha, hl, tb, k⟩ := h
    refine ⟨_, pss_cons (ps_set (i := 1) sc_bnd.nd rfl (Or.inl rfl) (pe_lst pa_nil))
      (pss_cons (ps_for PassesOwn.never rfl (pi_list (pe_fn F hr (pa_cons (pv 0) pa_nil))) (pg_tup rfl (pgs_cons (pg_name (i := 2) sc_bnd.nd rfl (Or.inl rfl)) (pgs_cons (pg_name (i := 3) sc_bnd.nd rfl (Or.inl rfl)) pgs_nil)))
        (pss_cons (ps_expr (pe_bm PySem.F.plainAttrs_list PySem.F.slot_list_append PySem.F.type_list_append mt_append (pv 1) (pa_cons (pv 2) pa_nil)))
        (pss_one (ps_if (pt_cmp (pc_notN (pv 3))) (pss_one (ps_expr (pe_bm PySem.F.plainAttrs_list PySem.F.slot_list_append PySem.F.type_list_append mt_append (pv 1) (pa_cons (pv 3) pa_nil)))) pss_nil))))
      (pss_one (ps_ret (pv 1)))), ?_⟩
    refine ⟨?_, fun fo hfo => ?_⟩
    · show 0 ≤ sizeLine
      decide
    have k0 : Kp J H (upd H fo (.lst [])) := Kp.new hfo
    refine ⟨_, rfl, a, l, rfl, k0.pl ha, by omega, k0.tab tb, fun H2 p k2 hp => ?_⟩
    obtain ⟨ts, hp, hts⟩ := hp
    have tb2 := k2.tab (k0.tab tb)
    have hfo2 : H2 fo = some (.lst []) := k2.lst upd_same
    refine ⟨p, rfl, ⟨_, SqL.of hp⟩, for_it (walk_list (K := K) (a := p) (xs := ts.map V.ref)) (BnP J H a p fo ts (joinI l))
        ⟨none, none, rfl, k0.trans k2, tb2, hp, hts, hfo2⟩ (fun i σ H' _ q => SqL.of q.ex.choose_spec.choose_spec.2.2.2.1) (fun i x σ H' H3 hi q y => ?_) (fun σ H' q => ?_)⟩
    · obtain ⟨v2, v3, rfl, kk, tk, hp', hpl, hfo'⟩ := q.ex
      obtain ⟨rfl, hx⟩ := y
      obtain ⟨t, ht, rfl⟩ := map_get hx
      obtain ⟨z, hz, hzt⟩ := paired_get hpl ht
      refine ⟨t, _, rfl, SqT.of hzt, rfl, _, _, rfl, _, _, rfl, rfl, ?_⟩
      have hlen : (bOf ((joinI l).take i)).length ≤ 80000 := by
        have h1 := bOf_length ((joinI l).take i)
        have h2 := joinI_length l
        rw [List.length_take] at h1
        omega
      have npf : p ≠ fo := fun z => by
        rw [z] at hp
        rw [hfo2] at hp
        cases ts with
        | nil => simp at hx
        | cons => cases hp
      have step : bOf ((joinI l).take (i + 1)) = bOf ((joinI l).take i) ++ (z.1 :: z.2.toList) := by
        rw [take_snoc hz, bOf_append]
        simp [bOf]
      refine ⟨_, rfl, .inl ⟨rfl, _, SqL.of hfo'⟩, _, rfl, fo, _, _, rfl, rfl, hfo', ?_, ?_⟩
      · rw [List.length_map]
        exact small (by omega)
      have hup : upd H3 fo (.lst ((bOf ((joinI l).take i)).map V.int ++ [V.int z.1])) fo = some (.lst ((bOf ((joinI l).take i)).map V.int ++ [V.int z.1])) := upd_same
      refine ⟨_, rfl, _, rfl, ?_⟩
      obtain ⟨zb, ze⟩ := z
      cases ze with
      | none =>
        refine ifF rfl ⟨_, _, rfl, kp_own kk hfo hfo', tab_upd tk hfo', ?_, (tk_upd hfo').pcs hpl, ?_⟩
        · rw [upd_ne npf]
          exact hp'
        · rw [step, IL, upd_same, List.map_append]
          rfl
      | some e =>
        refine ifT rfl ?_
        refine ⟨_, rfl, .inl ⟨rfl, _, SqL.of hup⟩, _, rfl, fo, _, _, rfl, rfl, hup, ?_, ?_⟩
        · rw [List.length_append, List.length_map]
          exact small (by simp; omega)
        refine ⟨_, _, rfl, kp_own (kp_own kk hfo hfo') hfo hup, tab_upd (tab_upd tk hfo') hup, ?_, (tk_upd hup).pcs ((tk_upd hfo').pcs hpl), ?_⟩
        · rw [upd_ne npf, upd_ne npf]
          exact hp'
        · rw [step, IL, upd_same, List.map_append, List.append_assoc]
          rfl
    · obtain ⟨v2, v3, rfl, kk, tk, hp', hpl, hfo'⟩ := q.ex
      refine ⟨_, rfl, k _ fo kk tk (NL.new hfo) ?_⟩
      rw [List.length_map, paired_len hpl, List.take_length] at hfo'
      exact hfo'
/-! truth_of -/
/-- the four words -/
inductive W4
  | either | both | less | odd
def W4.str : W4 → Str
  | .either => "either"
  | .both => "both"
  | .less => "less"
  | .odd => "odd"
def W4.op : W4 → Bool → Bool → Bool
  | .either => fun a b => a || b
  | .both => fun a b => a && b
  | .less => fun a b => a && !b
  | .odd => fun a b => a != b
def spTruth : Sp := fun vs H Q _ => ∃ (o : W4) (x y : Bool), vs = [.str o.str, .bl x, .bl y] ∧ Q (.bl (o.op x y)) H
theorem sc_truth : FnScope ["word", "one", "other"] ["word", "one", "other"] (defScope (top 10)) := ⟨rfl, rfl, rfl, by decide +kernel, rfl, by decide +kernel, by decide +kernel⟩
theorem ok_truth (d : DefAt K "truth_of" (top 10)) (G : Gm K mg) : Fn P w K mg base CX0 1 "truth_of" ["word", "one", "other"] spTruth := by
  refine d.fn G sc_truth (fun _ _ _ _ _ _ us hl => match us, hl with | [_, _, _], _ => rfl) (fun vs H Q E h => ?_) (fun f cdv A outer s H vs Q E hr h => ?_)
  · obtain ⟨o, x, y, rfl, _⟩ := h
    rfl
  · obtain ⟨o, x, y, rfl, k⟩ := h
    refine ⟨_, pss_cons (ps_if (pt_cmpR op_eq (pv 0) pe_str (nomark _)) (pss_one (ps_ret (pe_or (pv 1) (pe_one (pv 2))))) pss_nil)
      (pss_cons (ps_if (pt_cmpR op_eq (pv 0) pe_str (nomark _)) (pss_one (ps_ret (pe_and (pv 1) (pe_one (pv 2))))) pss_nil)
      (pss_cons (ps_if (pt_cmpR op_eq (pv 0) pe_str (nomark _)) (pss_one (ps_ret (pe_and (pv 1) (pe_one (pe_not (pv 2)))))) pss_nil)
      (pss_one (ps_ret (pe_cmpR op_ne (pv 1) (pv 2) (nomark _)))))), ?_⟩
    have ne : ∀ a b : Str, (a == b) = false → decide (V.str a = V.str b) = false := fun a b h => by rw [dec_str]; exact h
    have eq : ∀ a : Str, decide (V.str a = V.str a) = true := fun a => decide_eq_true rfl
    cases o with
    | either =>
      refine ⟨_, rfl, rfl, _, rfl, ifT (eq _) ?_⟩
      cases x
      · exact ⟨_, rfl, _, rfl, ifF rfl ⟨_, rfl, k⟩⟩
      · exact ⟨_, rfl, _, rfl, ifT rfl k⟩
    | both =>
      refine ⟨_, rfl, rfl, _, rfl, ifF (ne _ _ (by decide)) ⟨_, rfl, rfl, _, rfl, ifT (eq _) ?_⟩⟩
      cases x
      · exact ⟨_, rfl, _, rfl, ifF rfl k⟩
      · exact ⟨_, rfl, _, rfl, ifT rfl ⟨_, rfl, k⟩⟩
    | less =>
      refine ⟨_, rfl, rfl, _, rfl, ifF (ne _ _ (by decide)) ⟨_, rfl, rfl, _, rfl, ifF (ne _ _ (by decide)) ⟨_, rfl, rfl, _, rfl, ifT (eq _) ?_⟩⟩⟩
      cases x
      · exact ⟨_, rfl, _, rfl, ifF rfl k⟩
      · exact ⟨_, rfl, _, rfl, ifT rfl ⟨_, rfl, _, rfl, k⟩⟩
    | odd =>
      refine ⟨_, rfl, rfl, _, rfl, ifF (ne _ _ (by decide)) ⟨_, rfl, rfl, _, rfl, ifF (ne _ _ (by decide)) ⟨_, rfl, rfl, _, rfl, ifF (ne _ _ (by decide)) ?_⟩⟩⟩
      refine ⟨_, rfl, _, rfl, rfl, ?_⟩
      cases x <;> cases y <;> exact k
/-! combined -/
def spComb (J : Addr) : Sp := fun vs H Q _ => ∃ (o : W4) (a b : Addr) (one two : List Int), vs = [.str o.str, .ref a, .ref b] ∧ IL H a one ∧ IL H b two ∧ one.length + two.length ≤ 4000 ∧ Tab J H ∧
  ∀ H' p marks, Kp J H H' → Tab J H' → NL H p → Marks one two marks → IL H' p (combOf (op2 o.op one two) marks) → Q (.ref p) H'
theorem sc_comb : FnScope ["word", "one", "other", "found", "mark"] ["word", "one", "other"] (defScope (top 11)) := ⟨rfl, rfl, rfl, by decide +kernel, rfl, by decide +kernel, by decide +kernel⟩
structure CoP (J : Addr) (H : Hp) (o : W4) (a b p fo : Addr) (one two marks : List Int) (i : Nat) (σ : L2.St) (H' : Hp) : Prop where
  ex : ∃ (v4 : Option V), σ = [some (.str o.str), some (.ref a), some (.ref b), some (.ref fo), v4] ∧ Kp J H H' ∧ Tab J H' ∧ IL H' p marks ∧ IL H' fo (combOf (op2 o.op one two) (marks.take i))
theorem ok_comb (d : DefAt K "combined" (top 11)) (G : Gm K mg) (B : Bi mg) (F1 : Fn P w K mg base CX0 1 "truth_of" ["word", "one", "other"] spTruth) (F2 : Fn P w K mg base CX0 1 "is_in" ["bounds", "moment"] (spIsIn J)) (F3 : Fn P w K mg base CX0 1 "is_endless" ["bounds"] (spEnd J)) :
    Fn P w K mg base CX0 2 "combined" ["word", "one", "other"] (spComb J) := by
  refine d.fn G sc_comb (fun _ _ _ _ _ _ us hl => match us, hl with | [_, _, _], _ => rfl) (fun vs H Q E h => ?_) (fun f cdv A outer s H vs Q E hr h => ?_)
  · obtain ⟨o, a, b, one, two, rfl, _⟩ := h
    rfl
  · obtain ⟨o, a, b, one, two, rfl, ha, hb, hl, tb, k⟩ := h
    refine ⟨_, pss_cons (ps_set (i := 3) sc_comb.nd rfl (Or.inl rfl) (pe_lst pa_nil))
      (pss_cons (ps_for PassesOwn.never rfl (pi_list (pe_callB (cr_sortedSetN rfl) (by rfl) B.sorted (by decide +kernel) (pa_cons (pe_callTy (cr_setL rfl) (by rfl) B.set (by decide +kernel) (pa_cons (pe_op op_cat (pv 1) (pv 2)) pa_nil)) pa_nil))) (pg_name (i := 4) sc_comb.nd rfl (Or.inl rfl))
        (pss_one (ps_if (pt_cmpR op_ne (pe_fn F1 hr (pa_cons (pv 0) (pa_cons (pe_fn F2 hr (pa_cons (pv 1) (pa_cons (pv 4) pa_nil))) (pa_cons (pe_fn F2 hr (pa_cons (pv 2) (pa_cons (pv 4) pa_nil))) pa_nil)))) (pe_fn F3 hr (pa_cons (pv 3) pa_nil)) (nomark _))
          (pss_one (ps_expr (pe_bm PySem.F.plainAttrs_list PySem.F.slot_list_append PySem.F.type_list_append mt_append (pv 3) (pa_cons (pv 4) pa_nil)))) pss_nil)))
      (pss_one (ps_ret (pv 3)))), ?_⟩
    refine ⟨?_, fun fo hfo => ?_⟩
    · show 0 ≤ sizeLine
      decide
    have k0 : Kp J H (upd H fo (.lst [])) := Kp.new hfo
    have hlm : (one.map V.int).length + (two.map V.int).length ≤ 4000 := by rw [List.length_map, List.length_map]; exact hl
    refine ⟨_, rfl, _, rfl, a, b, _, _, rfl, rfl, k0.lst ha, k0.lst hb, Nat.le_trans hlm (by decide), fun c hc => ?_⟩
    have k1 := k0.trans (Kp.new (J := J) (o := .lst (one.map V.int ++ two.map V.int)) hc)
    refine ⟨c, one ++ two, rfl, SqL.of (by rw [upd_same, List.map_append]), ?_, fun p n hn hp => ?_⟩
    · rw [List.length_append]
      exact Nat.lt_of_le_of_lt (Nat.add_le_add_right hl 1) (by decide)
    have k2 := k1.trans (Kp.new (J := J) (o := SetO w p (fun j => decide (j ∈ one ++ two)) n) hp)
    refine ⟨p, _, n, rfl, upd_same, ?_, fun marks q hi hm hln hq => ?_⟩
    · refine Nat.le_trans hn ?_
      rw [List.length_append]
      exact Nat.le_trans hl (by decide)
    have k3 := k2.trans (Kp.new (J := J) (o := .lst (marks.map V.int)) hq)
    have hM : Marks one two marks := ⟨hi, fun m => by rw [hm]; simp, by rw [hln]; rw [List.length_append] at hn; exact hn⟩
    have hfo3 := ((Kp.new (J := J) (o := .lst (one.map V.int ++ two.map V.int)) hc).trans ((Kp.new (J := J) (o := SetO w p (fun j => decide (j ∈ one ++ two)) n) hp).trans (Kp.new (J := J) (o := .lst (marks.map V.int)) hq))).lst (upd_same (a := fo) (H := H) (o := .lst []))
    have lM : marks.length ≤ 4000 := by
      rw [hln]
      rw [List.length_append] at hn
      omega
    have nqf : q ≠ fo := fun z => by
      rw [z] at hq
      have e := ((Kp.new (J := J) (o := .lst (one.map V.int ++ two.map V.int)) hc).trans ((Kp.new (J := J) (o := SetO w p (fun j => decide (j ∈ one ++ two)) n) hp))).lst (upd_same (a := fo) (H := H) (o := .lst []))
      exact absurd (hq.symm.trans e) (fun z => by cases z)
    refine ⟨q, rfl, ⟨_, SqL.of upd_same⟩, for_it (walk_list (K := K) (a := q) (xs := marks.map V.int)) (CoP J H o a b q fo one two marks)
        ⟨none, rfl, k3, k3.tab tb, upd_same, hfo3⟩ (fun i σ H' _ z => SqL.of z.ex.choose_spec.2.2.2.1) (fun i x σ H' H3 hi z y => ?_) (fun σ H' z => ?_)⟩
    · obtain ⟨v4, rfl, kk, tk, hq', hfo'⟩ := z.ex
      obtain ⟨rfl, hx⟩ := y
      obtain ⟨m, hm, rfl⟩ := map_get hx
      refine ⟨_, rfl, _, rfl, _, rfl, a, one, m, rfl, kk.lst ha, by omega, tk, fun H4 k4 => ?_⟩
      refine ⟨_, rfl, _, rfl, b, two, m, rfl, (kk.trans k4).lst hb, by omega, k4.tab tk, fun H5 k5 => ?_⟩
      refine ⟨o, _, _, rfl, ?_⟩
      have k45 := k4.trans k5
      have hf5 := k45.lst hfo'
      refine ⟨_, rfl, fo, _, rfl, hf5, rfl, _, rfl, ?_⟩
      have step : combOf (op2 o.op one two) (marks.take (i + 1)) = combStep (op2 o.op one two) (combOf (op2 o.op one two) (marks.take i)) m := by
        rw [take_snoc hm, combOf, List.foldl_append]
        rfl
      have hb2 : (!decide (V.bl (o.op (hasI one m) (hasI two m)) = V.bl (endI (combOf (op2 o.op one two) (marks.take i))))) = (op2 o.op one two m != endI (combOf (op2 o.op one two) (marks.take i))) := by
        rw [dec_bl]
        rfl
      cases c : (op2 o.op one two m != endI (combOf (op2 o.op one two) (marks.take i))) with
      | true =>
        refine ifT (hb2.trans c) ?_
        refine ⟨_, rfl, .inl ⟨rfl, _, SqL.of hf5⟩, _, rfl, fo, _, _, rfl, rfl, hf5, ?_, ?_⟩
        · rw [List.length_map]
          refine small ?_
          have h1 := comb_length (g := op2 o.op one two) (marks := marks.take i)
          rw [List.length_take] at h1
          omega
        refine ⟨_, rfl, kp_own (kk.trans k45) hfo hf5, tab_upd (k45.tab tk) hf5, ?_, ?_⟩
        · rw [IL, upd_ne nqf]
          exact k45.lst hq'
        · rw [step, IL, upd_same, combStep, if_pos c, List.map_append]
          rfl
      | false =>
        refine ifF (hb2.trans c) ⟨_, rfl, kk.trans k45, k45.tab tk, k45.lst hq', ?_⟩
        rw [step, combStep, if_neg (by rw [c]; exact Bool.false_ne_true)]
        exact hf5
    · obtain ⟨v4, rfl, kk, tk, hq', hfo'⟩ := z.ex
      refine ⟨_, rfl, k _ fo marks kk tk (NL.new hfo) hM ?_⟩
      rw [List.length_map, List.take_length] at hfo'
      exact hfo'
end
end Ms
end

/-! text W6 -/
section
set_option Elab.async false
set_option linter.all false
set_option maxRecDepth 100000
set_option maxHeartbeats 4000000
namespace Ms
open PySem PySem.Spec PyProof.Rows L2
/-- a name of the module has a value -/
abbrev GC (mg : Str → Option Value) (x : Str) (v : V) : Prop := ∃ u, mg x = some u ∧ RelV v u
/-- a name of the module is a written list -/
def GL (K : PySem.W.Frag) (mg : Str → Option Value) (x : Str) (xs : List V) : Prop := ∃ a, GC mg x (.ref a) ∧ ∀ H, SqL K H a xs
theorem pe_gcv {X : Cx} {x : Str} {pos : Pos} {v : V} (hg : Gl X x) (h : GC X.mg x v) (hd : (x == ("__debug__" : Str)) = false := by decide) : PE X (.Name x pos) (tC v) := by
  obtain ⟨u, hm, r⟩ := h
  exact pe_glob hg hm r hd
section
variable {J D : Addr} {H1 H H4 : Hp} {g : Nat → List Pc} {i : Nat}
theorem LcP.appPc {m : Addr} {y : Pc} (p : LcP J H1 D (RPc g) i H) (k : Kp J H H4) (hm : PcAt H4 m y) (hg : g (i + 1) = g i ++ [y]) (hl : (g i).length ≤ 100000) :
    ∃ acc, H4 D = some (.lst acc) ∧ acc.length < sizeLine ∧ LcP J H1 D (RPc g) (i + 1) (upd H4 D (.lst (acc ++ [V.ref m]))) := by
  obtain ⟨acc, h1, ts, rfl, h2⟩ := p.at_
  have h4 := k.lst h1
  refine p.app k h1 ?_ ⟨ts ++ [m], by rw [List.map_append]; rfl, ?_⟩
  · rw [List.length_map, paired_len h2]
    exact small hl
  · rw [hg]
    exact paired_snoc ((tk_upd h4).pcs (k.pcs h2)) (tk_upd h4 _ _ hm)
theorem LcP.skipPc (p : LcP J H1 D (RPc g) i H) (k : Kp J H H4) (hg : g (i + 1) = g i) : LcP J H1 D (RPc g) (i + 1) H4 := by
  obtain ⟨acc, h1, ts, rfl, h2⟩ := p.at_
  refine p.skip k h1 ⟨ts, rfl, ?_⟩
  rw [hg]
  exact k.pcs h2
theorem LcP.endPc (p : LcP J H1 D (RPc g) i H) : PL H D (g i) := by
  obtain ⟨acc, h1, ts, rfl, h2⟩ := p.at_
  exact ⟨ts, h1, h2⟩
theorem LcP.startPc (hD : H1 D = none) (t : Tab J H1) (h0 : g 0 = []) : LcP J H1 D (RPc g) 0 (upd H1 D (.lst [])) := LcP.start hD t ⟨[], rfl, by rw [h0]; exact .nil⟩
/-- whole numbers made so far -/
def RIn (f : Nat → List Int) : Nat → List V → Hp → Prop := fun i acc _ => acc = (f i).map V.int
variable {f : Nat → List Int}
theorem LcP.appI {y : Int} (p : LcP J H1 D (RIn f) i H) (k : Kp J H H4) (hg : f (i + 1) = f i ++ [y]) (hl : (f i).length ≤ 100000) :
    ∃ acc, H4 D = some (.lst acc) ∧ acc.length < sizeLine ∧ LcP J H1 D (RIn f) (i + 1) (upd H4 D (.lst (acc ++ [V.int y]))) := by
  obtain ⟨acc, h1, rfl⟩ := p.at_
  refine p.app k h1 ?_ ?_
  · rw [List.length_map]
    exact small hl
  · show _ = _
    rw [hg, List.map_append]
    rfl
theorem LcP.endI (p : LcP J H1 D (RIn f) i H) : IL H D (f i) := by
  obtain ⟨acc, h1, rfl⟩ := p.at_
  exact h1
theorem LcP.startI (hD : H1 D = none) (t : Tab J H1) (h0 : f 0 = []) : LcP J H1 D (RIn f) 0 (upd H1 D (.lst [])) := LcP.start hD t (by show _ = _; rw [h0]; rfl)
end
theorem fm_snoc {α β : Type} {l : List α} {i : Nat} {x : α} {y : β} {f : α → Option β} (h : l[i]? = some x) (hf : f x = some y) : (l.take (i + 1)).filterMap f = (l.take i).filterMap f ++ [y] := by
  rw [take_snoc h, List.filterMap_append]
  simp [hf]
theorem fm_skip {α β : Type} {l : List α} {i : Nat} {x : α} {f : α → Option β} (h : l[i]? = some x) (hf : f x = none) : (l.take (i + 1)).filterMap f = (l.take i).filterMap f := by
  rw [take_snoc h, List.filterMap_append]
  simp [hf]
theorem fm_len {α β : Type} {l : List α} {i n : Nat} {f : α → Option β} (h : l.length ≤ n) : ((l.take i).filterMap f).length ≤ n := by
  have := List.length_filterMap_le f (l.take i)
  rw [List.length_take] at this
  omega
theorem pcs_length : ∀ ns : List Int, (pcs ns).length ≤ ns.length
  | [] => Nat.le_refl _
  | [_] => Nat.le_refl _
  | _ :: _ :: r => by
    have := pcs_length r
    rw [pcs, List.length_cons, List.length_cons, List.length_cons]
    omega
/-! mirrors -/
def shiftE (e : Option Int) (n : Int) : Option Int := e.map (· + n)
def max0 (z : Int) : Int := if 0 > z then 0 else z
def earlierP (n : Int) (x : Pc) : Option Pc := if endGt x.2 n = true then some (max0 (x.1 - n), shiftE x.2 (-n)) else none
def earlierI (ns : List Int) (n : Int) : List Int := boundsI ((pcs ns).filterMap (earlierP n))
section
variable {P : Program} {w : World} {K : PySem.W.Frag} {mg : Str → Option Value} {base : Heap} {J : Addr}
/-! shifted -/
def spShift : Sp := fun vs H Q _ => ∃ (e : Option Int) (n : Int), vs = [endV e, .int n] ∧ Q (endV (shiftE e n)) H
theorem sc_shift : FnScope ["end", "n"] ["end", "n"] (defScope (top 13)) := ⟨rfl, rfl, rfl, by decide +kernel, rfl, by decide +kernel, by decide +kernel⟩
theorem ok_shift (d : DefAt K "shifted" (top 13)) (G : Gm K mg) : Fn P w K mg base CX0 1 "shifted" ["end", "n"] spShift := by
  refine d.fn G sc_shift (fun _ _ _ _ _ _ us hl => match us, hl with | [_, _], _ => rfl) (fun vs H Q E h => ?_) (fun f cdv A outer s H vs Q E hr h => ?_)
  · obtain ⟨e, b, rfl, _⟩ := h
    rfl
  · obtain ⟨e, b, rfl, k⟩ := h
    refine ⟨_, pss_cons (ps_if (pt_cmp (pc_isN (pv 0))) (pss_one (ps_ret pe_non)) pss_nil) (pss_one (ps_ret (pe_op op_add (pv 0) (pv 1)))), ?_⟩
    cases e with
    | none => exact ⟨_, rfl, _, rfl, ifT rfl k⟩
    | some e => exact ⟨_, rfl, _, rfl, ifF rfl ⟨_, rfl, _, rfl, _, _, rfl, rfl, k⟩⟩
/-! is_longer -/
def spLong : Sp := fun vs H Q _ => ∃ (t : Addr) (x : Pc) (b : Int), vs = [.ref t, .int b] ∧ PcAt H t x ∧ Q (.bl (endGt x.2 b)) H
theorem sc_long : FnScope ["piece", "begin"] ["piece", "begin"] (defScope (top 14)) := ⟨rfl, rfl, rfl, by decide +kernel, rfl, by decide +kernel, by decide +kernel⟩
theorem ok_long (d : DefAt K "is_longer" (top 14)) (G : Gm K mg) : Fn P w K mg base CX0 1 "is_longer" ["piece", "begin"] spLong := by
  refine d.fn G sc_long (fun _ _ _ _ _ _ us hl => match us, hl with | [_, _], _ => rfl) (fun vs H Q E h => ?_) (fun f cdv A outer s H vs Q E hr h => ?_)
  · obtain ⟨t, x, b, rfl, _⟩ := h
    rfl
  · obtain ⟨t, x, b, rfl, ht, k⟩ := h
    refine ⟨_, pss_one (ps_ret (pe_or (pe_cmp (pc_isN (pe_ix ix_tup (pv 0) pe_int (fun _ _ => rfl)))) (pe_one (pe_cmp (pc_gt (pe_ix ix_tup (pv 0) pe_int (fun _ _ => rfl)) (pv 1)))))), ?_⟩
    obtain ⟨x1, e⟩ := x
    have g1 : ∃ p xs i v, V.ref t = V.ref p ∧ V.int 1 = V.int i ∧ SqT K H p xs ∧ atI xs i = some v ∧ v = endV e := ⟨t, _, 1, endV e, rfl, rfl, SqT.of ht, by exact atI_nat rfl, rfl⟩
    cases e with
    | none => exact ⟨_, rfl, t, _, 1, V.non, rfl, rfl, SqT.of ht, by exact atI_nat rfl, _, rfl, ifT rfl k⟩
    | some e => exact ⟨_, rfl, t, _, 1, V.int e, rfl, rfl, SqT.of ht, by exact atI_nat rfl, _, rfl, ifF rfl ⟨_, rfl, t, _, 1, V.int e, rfl, rfl, SqT.of ht, by exact atI_nat rfl, _, rfl, _, _, rfl, rfl, k⟩⟩
/-! other -/
def spOther (J : Addr) : Sp := fun vs H Q _ => ∃ (a : Addr) (ns : List Int), vs = [.ref a] ∧ IL H a ns ∧ ns.length ≤ 3000 ∧ Tab J H ∧
  ∀ H' p marks, Kp J H H' → Tab J H' → NL H p → Marks ns [0] marks → IL H' p (combOf (op2 W4.odd.op ns [0]) marks) → Q (.ref p) H'
theorem sc_other : FnScope ["bounds"] ["bounds"] (defScope (top 15)) := ⟨rfl, rfl, rfl, by decide +kernel, rfl, by decide +kernel, by decide +kernel⟩
theorem ok_other (d : DefAt K "other" (top 15)) (G : Gm K mg) (B : Bi mg) (gA : GL K mg "ALWAYS" [.int 0]) (F : Fn P w K mg base CX0 2 "combined" ["word", "one", "other"] (spComb J)) : Fn P w K mg base CX0 3 "other" ["bounds"] (spOther J) := by
  obtain ⟨aA, gA, sA⟩ := gA
  refine d.fn G sc_other (fun _ _ _ _ _ _ us hl => match us, hl with | [_], _ => rfl) (fun vs H Q E h => ?_) (fun f cdv A outer s H vs Q E hr h => ?_)
  · obtain ⟨a, ns, rfl, _⟩ := h
    rfl
  · obtain ⟨a, ns, rfl, ha, hl, tb, k⟩ := h
    refine ⟨_, pss_one (ps_ret (pe_fn F hr (pa_cons pe_str (pa_cons (pv 0) (pa_cons (pe_callTy call_list_of (by rfl) B.list (by decide +kernel) (pa_cons (pe_gcv rfl gA) pa_nil)) pa_nil))))), ?_⟩
    refine ⟨_, rfl, aA, _, rfl, .inl (sA _), fun l hl0 => ?_⟩
    have k0 : Kp J H (upd H l (.lst [.int 0])) := Kp.new hl0
    refine ⟨.odd, a, l, ns, [0], rfl, k0.lst ha, upd_same, ?_, k0.tab tb, fun H' p marks kk tk nl hm hp => k H' p marks (k0.trans kk) tk (nl.back k0) hm hp⟩
    simp
    omega
/-! later -/
def spLaterS (J : Addr) : Sp := fun vs H Q _ => ∃ (a : Addr) (ns : List Int) (n : Int), vs = [.ref a, .int n] ∧ IL H a ns ∧ ns.length ≤ 3000 ∧ Tab J H ∧
  ∀ H' p, Kp J H H' → Tab J H' → NL H p → IL H' p (ns.map (· + n)) → Q (.ref p) H'
theorem sc_laterS : FnScope ["bounds", "n", "bound"] ["bounds", "n"] (defScope (top 16)) := ⟨rfl, rfl, rfl, by decide +kernel, rfl, by decide +kernel, by decide +kernel⟩
theorem ok_laterS (d : DefAt K "later" (top 16)) (G : Gm K mg) : Fn P w K mg base CX0 1 "later" ["bounds", "n"] (spLaterS J) := by
  refine d.fn G sc_laterS (fun _ _ _ _ _ _ us hl => match us, hl with | [_, _], _ => rfl) (fun vs H Q E h => ?_) (fun f cdv A outer s H vs Q E hr h => ?_)
  · obtain ⟨a, ns, n, rfl, _⟩ := h
    rfl
  · obtain ⟨a, ns, n, rfl, ha, hl, tb, k⟩ := h
    refine ⟨_, pss_one (ps_ret (pe_lc (own := [("bound", 2)]) (g := gName 2) rfl sc_laterS.nd (pi_list (pv 0)) (blkOk_by (N := ["bounds", "n", "bound"]) (sc := defScope (top 16)) (by decide +kernel)) (fun _ _ _ _ _ => pg_name (i := 2) sc_laterS.nd rfl (Or.inl rfl)) (fun _ _ _ _ _ => pts_nil) (fun _ _ _ _ _ => pe_op op_add (pv 2) (pv 1)))), ?_⟩
    refine ⟨_, rfl, a, rfl, ⟨_, SqL.of ha⟩, fun D hD => lc_it (walk_list (K := K) (a := a) (xs := ns.map V.int)) (LcP J H D (RIn fun i => (ns.take i).map (· + n))) (LcP.startI hD tb rfl) (fun i H' _ p => SqL.of (p.kp.lst ha)) (fun i x H' H2 hi p y => ?_) (fun H' p => ?_)⟩
    · obtain ⟨rfl, hx⟩ := y
      obtain ⟨b, hb, rfl⟩ := map_get hx
      refine ⟨rfl, ⟨_, rfl, _, rfl, _, _, rfl, rfl, p.appI Kp.refl ?_ ?_⟩⟩
      · rw [take_snoc hb, List.map_append]
        rfl
      · rw [List.length_map, List.length_take]
        omega
    · have z := k _ D p.kp p.tab (NL.new hD) (by have := p.endI; rw [List.length_map, List.take_length] at this; exact this)
      exact z
/-! earlier -/
def spEarly (J : Addr) : Sp := fun vs H Q _ => ∃ (a : Addr) (ns : List Int) (n : Int), vs = [.ref a, .int n] ∧ IL H a ns ∧ ns.length ≤ 3000 ∧ Tab J H ∧
  ∀ H' p, Kp J H H' → Tab J H' → NL H p → IL H' p (earlierI ns n) → Q (.ref p) H'
theorem sc_early : FnScope ["bounds", "n", "some", "piece", "begin", "end"] ["bounds", "n"] (defScope (top 17)) := ⟨rfl, rfl, rfl, by decide +kernel, rfl, by decide +kernel, by decide +kernel⟩
theorem ok_early (d : DefAt K "earlier" (top 17)) (G : Gm K mg) (B : Bi mg) (F1 : Fn P w K mg base CX0 2 "pieces_of" ["bounds"] (spPcs J)) (F2 : Fn P w K mg base CX0 1 "is_longer" ["piece", "begin"] spLong) (F3 : Fn P w K mg base CX0 1 "shifted" ["end", "n"] spShift) (F4 : Fn P w K mg base CX0 3 "bounds_of" ["pieces"] (spBnd J)) :
    Fn P w K mg base CX0 4 "earlier" ["bounds", "n"] (spEarly J) := by
  refine d.fn G sc_early (fun _ _ _ _ _ _ us hl => match us, hl with | [_, _], _ => rfl) (fun vs H Q E h => ?_) (fun f cdv A outer s H vs Q E hr h => ?_)
  · obtain ⟨a, ns, n, rfl, _⟩ := h
    rfl
  · obtain ⟨a, ns, n, rfl, ha, hl, tb, k⟩ := h
    have hr2 := hr.mono (show 2 ≤ 3 by decide)
    have hr1 := hr.mono (show 1 ≤ 3 by decide)
    refine ⟨_, pss_cons (ps_setLc (i := 2) (own := [("piece", 3)]) (g := gName 3) rfl sc_early.nd rfl rfl rfl (pi_list (pe_fn F1 hr2 (pa_cons (pv 0) pa_nil))) (blkOk_by (N := ["bounds", "n", "some", "piece", "begin", "end"]) (sc := defScope (top 17)) (by decide +kernel)) (fun _ _ _ _ _ => pg_name (i := 3) sc_early.nd rfl (Or.inl rfl)) (fun _ _ _ _ _ => pts_one (pt_val (pe_fn F2 hr1 (pa_cons (pv 3) (pa_cons (pv 1) pa_nil))))) (fun _ _ _ _ _ => pv 3))
      (pss_one (ps_ret (pe_fn F4 hr (pa_cons (pe_lc (own := [("begin", 4), ("end", 5)]) (g := gTup K 2 (gCons (gName 4) (gCons (gName 5) gNil))) rfl sc_early.nd (pi_list (pv 2)) (blkOk_by (N := ["bounds", "n", "some", "piece", "begin", "end"]) (sc := defScope (top 17)) (by decide +kernel)) (fun _ _ _ _ _ => pg_tup rfl (pgs_cons (pg_name (i := 4) sc_early.nd rfl (Or.inl rfl)) (pgs_cons (pg_name (i := 5) sc_early.nd rfl (Or.inl rfl)) pgs_nil))) (fun _ _ _ _ _ => pts_nil)
        (fun _ _ _ _ _ => pe_tup (pa_cons (pe_callB (call_max2 rfl) (by rfl) B.max (by decide +kernel) (pa_cons (pe_op op_sub (pv 4) (pv 1)) (pa_cons pe_int pa_nil))) (pa_cons (pe_fn F3 hr1 (pa_cons (pv 5) (pa_cons (pe_un un_neg (pv 1)) pa_nil))) pa_nil)))) pa_nil)))), ?_⟩
    refine ⟨_, rfl, a, ns, rfl, ha, by omega, fun H1 p1 k1 h1 => ?_⟩
    obtain ⟨ts, hp1, hts⟩ := h1
    have lp := pcs_length ns
    refine ⟨p1, rfl, ⟨_, SqL.of hp1⟩, fun D hD => lc_it (walk_list (K := K) (a := p1) (xs := ts.map V.ref)) (LcP J H1 D (RPc fun i => ((pcs ns).take i).filterMap fun x => if endGt x.2 n = true then some x else none)) (LcP.startPc hD (k1.tab tb) rfl) (fun i H' _ p => SqL.of (p.kp.lst hp1)) (fun i x H' H2 hi p y => ?_) (fun H' p => ?_)⟩
    · obtain ⟨rfl, hx⟩ := y
      obtain ⟨t, ht, rfl⟩ := map_get hx
      obtain ⟨z, hz, hzt⟩ := paired_get (p.kp.pcs hts) ht
      refine ⟨rfl, _, rfl, _, rfl, t, z, n, rfl, hzt, _, rfl, ?_⟩
      cases c : endGt z.2 n with
      | true => exact ifT rfl ⟨_, rfl, p.appPc Kp.refl hzt (fm_snoc hz (if_pos c)) (fm_len (by omega))⟩
      | false => exact ifF rfl (p.skipPc Kp.refl (fm_skip hz (if_neg (by rw [c]; exact Bool.false_ne_true))))
    · have hpl := p.endPc
      have kH : Kp J H H' := k1.trans p.kp
      have tH := p.tab
      rw [List.length_map, paired_len hts, List.take_length] at hpl
      obtain ⟨us, hD', hus⟩ := hpl
      refine ⟨_, rfl, D, rfl, ⟨_, SqL.of hD'⟩, fun D2 hD2 => lc_it (walk_list (K := K) (a := D) (xs := us.map V.ref)) (LcP J H' D2 (RPc fun i => (((pcs ns).filterMap fun x => if endGt x.2 n = true then some x else none).take i).filterMap fun x => some (max0 (x.1 - n), shiftE x.2 (-n)))) (LcP.startPc hD2 tH rfl) (fun i H' _ p => SqL.of (p.kp.lst hD')) (fun i x H4 H3 hi p y => ?_) (fun H3 p => ?_)⟩
      · obtain ⟨rfl, hx⟩ := y
        obtain ⟨t, ht, rfl⟩ := map_get hx
        obtain ⟨z, hz, hzt⟩ := paired_get (p.kp.pcs hus) ht
        refine ⟨t, _, rfl, SqT.of hzt, rfl, _, _, rfl, _, _, rfl, rfl, rfl, _, rfl, _, rfl, _, _, rfl, rfl, _, _, rfl, _, rfl, _, rfl, n, rfl, z.2, -n, rfl, ?_, fun m hm => ?_⟩
        · show 2 ≤ sizeLine
          decide
        · refine p.appPc (Kp.new hm) upd_same (fm_snoc hz rfl) ?_
          refine fm_len (Nat.le_trans (List.length_filterMap_le _ _) (by omega))
      · have hpl := p.endPc
        rw [List.length_map, paired_len hus, List.take_length] at hpl
        refine ⟨D2, _, rfl, hpl, ?_, p.tab, fun H5 q k5 t5 nq hq => k H5 q ((kH.trans p.kp).trans k5) t5 (nq.back (kH.trans p.kp)) ?_⟩
        · refine Nat.le_trans (List.length_filterMap_le _ _) (Nat.le_trans (List.length_filterMap_le _ _) (by omega))
        · rw [earlierI]
          rw [List.filterMap_filterMap] at hq
          have e : (fun x : Pc => ((if endGt x.2 n = true then some x else none) : Option Pc).bind fun x => some (max0 (x.1 - n), shiftE x.2 (-n))) = earlierP n := by
            funext x
            unfold earlierP
            split <;> rfl
          rw [← e]
          exact hq
end
end Ms
end

/-! text W7 -/
section
set_option Elab.async false
set_option linter.all false
set_option maxRecDepth 100000
set_option maxHeartbeats 4000000
namespace Ms
open PySem PySem.Spec PyProof.Rows L2
def recentP (n : Int) (x : Pc) : Option Pc := some (x.1, shiftE x.2 n)
def soonP (n : Int) (x : Pc) : Option Pc := some (max0 (x.1 - n), x.2)
def isLast (n : Int) (x : Pc) : Bool := match x.2 with
  | none => true
  | some e => decide (n ≤ e - x.1)
def lastP (n : Int) (x : Pc) : Option Pc := if isLast n x = true then some x else none
def beginS (b n : Int) : Int := if b = 0 then 0 else b + n
def steadyP (n : Int) (x : Pc) : Option Pc := if endGt x.2 (beginS x.1 n) = true then some (beginS x.1 n, x.2) else none
def recentI (ns : List Int) (n : Int) : List Int := boundsI ((pcs ns).filterMap (recentP n))
def soonI (ns : List Int) (n : Int) : List Int := boundsI ((pcs ns).filterMap (soonP n))
def lastingI (ns : List Int) (n : Int) : List Int := boundsI ((pcs ns).filterMap (lastP n))
def steadyI (ns : List Int) (n : Int) : List Int := boundsI ((pcs ns).filterMap (steadyP n))
section
variable {P : Program} {w : World} {K : PySem.W.Frag} {mg : Str → Option Value} {base : Heap} {J : Addr}
/-- a set made of a set and a number -/
def spMk (J : Addr) (F : List Int → Int → List Int) : Sp := fun vs H Q _ => ∃ (a : Addr) (ns : List Int) (n : Int), vs = [.ref a, .int n] ∧ IL H a ns ∧ ns.length ≤ 3000 ∧ Tab J H ∧
  ∀ H' p, Kp J H H' → Tab J H' → NL H p → IL H' p (F ns n) → Q (.ref p) H'
/-! recent -/
theorem sc_recent : FnScope ["bounds", "n", "begin", "end"] ["bounds", "n"] (defScope (top 18)) := ⟨rfl, rfl, rfl, by decide +kernel, rfl, by decide +kernel, by decide +kernel⟩
theorem ok_recent (d : DefAt K "recent" (top 18)) (G : Gm K mg) (F1 : Fn P w K mg base CX0 2 "pieces_of" ["bounds"] (spPcs J)) (F3 : Fn P w K mg base CX0 1 "shifted" ["end", "n"] spShift) (F4 : Fn P w K mg base CX0 3 "bounds_of" ["pieces"] (spBnd J)) :
    Fn P w K mg base CX0 4 "recent" ["bounds", "n"] (spMk J recentI) := by
  refine d.fn G sc_recent (fun _ _ _ _ _ _ us hl => match us, hl with | [_, _], _ => rfl) (fun vs H Q E h => ?_) (fun f cdv A outer s H vs Q E hr h => ?_)
  · obtain ⟨a, ns, n, rfl, _⟩ := h
    rfl
  · obtain ⟨a, ns, n, rfl, ha, hl, tb, k⟩ := h
    have hr2 := hr.mono (show 2 ≤ 3 by decide)
    have hr1 := hr.mono (show 1 ≤ 3 by decide)
    refine ⟨_, pss_one (ps_ret (pe_fn F4 hr (pa_cons (pe_lc (own := [("begin", 2), ("end", 3)]) (g := gTup K 2 (gCons (gName 2) (gCons (gName 3) gNil))) rfl sc_recent.nd (pi_list (pe_fn F1 hr2 (pa_cons (pv 0) pa_nil))) (blkOk_by (N := ["bounds", "n", "begin", "end"]) (sc := defScope (top 18)) (by decide +kernel)) (fun _ _ _ _ _ => pg_tup rfl (pgs_cons (pg_name (i := 2) sc_recent.nd rfl (Or.inl rfl)) (pgs_cons (pg_name (i := 3) sc_recent.nd rfl (Or.inl rfl)) pgs_nil))) (fun _ _ _ _ _ => pts_nil)
        (fun _ _ _ _ _ => pe_tup (pa_cons (pv 2) (pa_cons (pe_fn F3 hr1 (pa_cons (pv 3) (pa_cons (pv 1) pa_nil))) pa_nil)))) pa_nil))), ?_⟩
    refine ⟨_, rfl, a, ns, rfl, ha, by omega, fun H1 p1 k1 h1 => ?_⟩
    obtain ⟨ts, hp1, hts⟩ := h1
    have lp := pcs_length ns
    refine ⟨p1, rfl, ⟨_, SqL.of hp1⟩, fun D hD => lc_it (walk_list (K := K) (a := p1) (xs := ts.map V.ref)) (LcP J H1 D (RPc fun i => ((pcs ns).take i).filterMap (recentP n))) (LcP.startPc hD (k1.tab tb) rfl) (fun i H' _ p => SqL.of (p.kp.lst hp1)) (fun i x H' H2 hi p y => ?_) (fun H' p => ?_)⟩
    · obtain ⟨rfl, hx⟩ := y
      obtain ⟨t, ht, rfl⟩ := map_get hx
      obtain ⟨z, hz, hzt⟩ := paired_get (p.kp.pcs hts) ht
      refine ⟨t, _, rfl, SqT.of hzt, rfl, _, _, rfl, _, _, rfl, rfl, rfl, _, rfl, _, rfl, _, rfl, z.2, n, rfl, ?_, fun m hm => ?_⟩
      · show 2 ≤ sizeLine
        decide
      · exact p.appPc (Kp.new hm) upd_same (fm_snoc hz rfl) (fm_len (by omega))
    · have hpl := p.endPc
      rw [List.length_map, paired_len hts, List.take_length] at hpl
      have kH : Kp J H H' := k1.trans p.kp
      exact ⟨D, _, rfl, hpl, Nat.le_trans (List.length_filterMap_le _ _) (by omega), p.tab, fun H5 q k5 t5 nq hq => k H5 q (kH.trans k5) t5 (nq.back kH) hq⟩
/-! soon -/
theorem sc_soon : FnScope ["bounds", "n", "begin", "end"] ["bounds", "n"] (defScope (top 21)) := ⟨rfl, rfl, rfl, by decide +kernel, rfl, by decide +kernel, by decide +kernel⟩
theorem ok_soon (d : DefAt K "soon" (top 21)) (G : Gm K mg) (B : Bi mg) (F1 : Fn P w K mg base CX0 2 "pieces_of" ["bounds"] (spPcs J)) (F4 : Fn P w K mg base CX0 3 "bounds_of" ["pieces"] (spBnd J)) :
    Fn P w K mg base CX0 4 "soon" ["bounds", "n"] (spMk J soonI) := by
  refine d.fn G sc_soon (fun _ _ _ _ _ _ us hl => match us, hl with | [_, _], _ => rfl) (fun vs H Q E h => ?_) (fun f cdv A outer s H vs Q E hr h => ?_)
  · obtain ⟨a, ns, n, rfl, _⟩ := h
    rfl
  · obtain ⟨a, ns, n, rfl, ha, hl, tb, k⟩ := h
    have hr2 := hr.mono (show 2 ≤ 3 by decide)
    have hr1 := hr.mono (show 1 ≤ 3 by decide)
    refine ⟨_, pss_one (ps_ret (pe_fn F4 hr (pa_cons (pe_lc (own := [("begin", 2), ("end", 3)]) (g := gTup K 2 (gCons (gName 2) (gCons (gName 3) gNil))) rfl sc_soon.nd (pi_list (pe_fn F1 hr2 (pa_cons (pv 0) pa_nil))) (blkOk_by (N := ["bounds", "n", "begin", "end"]) (sc := defScope (top 21)) (by decide +kernel)) (fun _ _ _ _ _ => pg_tup rfl (pgs_cons (pg_name (i := 2) sc_soon.nd rfl (Or.inl rfl)) (pgs_cons (pg_name (i := 3) sc_soon.nd rfl (Or.inl rfl)) pgs_nil))) (fun _ _ _ _ _ => pts_nil)
        (fun _ _ _ _ _ => pe_tup (pa_cons (pe_callB (call_max2 rfl) (by rfl) B.max (by decide +kernel) (pa_cons (pe_op op_sub (pv 2) (pv 1)) (pa_cons pe_int pa_nil))) (pa_cons (pv 3) pa_nil)))) pa_nil))), ?_⟩
    refine ⟨_, rfl, a, ns, rfl, ha, by omega, fun H1 p1 k1 h1 => ?_⟩
    obtain ⟨ts, hp1, hts⟩ := h1
    have lp := pcs_length ns
    refine ⟨p1, rfl, ⟨_, SqL.of hp1⟩, fun D hD => lc_it (walk_list (K := K) (a := p1) (xs := ts.map V.ref)) (LcP J H1 D (RPc fun i => ((pcs ns).take i).filterMap (soonP n))) (LcP.startPc hD (k1.tab tb) rfl) (fun i H' _ p => SqL.of (p.kp.lst hp1)) (fun i x H' H2 hi p y => ?_) (fun H' p => ?_)⟩
    · obtain ⟨rfl, hx⟩ := y
      obtain ⟨t, ht, rfl⟩ := map_get hx
      obtain ⟨z, hz, hzt⟩ := paired_get (p.kp.pcs hts) ht
      refine ⟨t, _, rfl, SqT.of hzt, rfl, _, _, rfl, _, _, rfl, rfl, rfl, _, rfl, _, rfl, _, _, rfl, rfl, _, _, rfl, _, rfl, ?_, fun m hm => ?_⟩
      · show 2 ≤ sizeLine
        decide
      · exact p.appPc (Kp.new hm) upd_same (fm_snoc hz rfl) (fm_len (by omega))
    · have hpl := p.endPc
      rw [List.length_map, paired_len hts, List.take_length] at hpl
      have kH : Kp J H H' := k1.trans p.kp
      exact ⟨D, _, rfl, hpl, Nat.le_trans (List.length_filterMap_le _ _) (by omega), p.tab, fun H5 q k5 t5 nq hq => k H5 q (kH.trans k5) t5 (nq.back kH) hq⟩
/-! lasting -/
theorem sc_lasting : FnScope ["bounds", "n", "begin", "end"] ["bounds", "n"] (defScope (top 24)) := ⟨rfl, rfl, rfl, by decide +kernel, rfl, by decide +kernel, by decide +kernel⟩
theorem ok_lasting (d : DefAt K "lasting" (top 24)) (G : Gm K mg) (F1 : Fn P w K mg base CX0 2 "pieces_of" ["bounds"] (spPcs J)) (F4 : Fn P w K mg base CX0 3 "bounds_of" ["pieces"] (spBnd J)) :
    Fn P w K mg base CX0 4 "lasting" ["bounds", "n"] (spMk J lastingI) := by
  refine d.fn G sc_lasting (fun _ _ _ _ _ _ us hl => match us, hl with | [_, _], _ => rfl) (fun vs H Q E h => ?_) (fun f cdv A outer s H vs Q E hr h => ?_)
  · obtain ⟨a, ns, n, rfl, _⟩ := h
    rfl
  · obtain ⟨a, ns, n, rfl, ha, hl, tb, k⟩ := h
    have hr2 := hr.mono (show 2 ≤ 3 by decide)
    have hr1 := hr.mono (show 1 ≤ 3 by decide)
    refine ⟨_, pss_one (ps_ret (pe_fn F4 hr (pa_cons (pe_lc (own := [("begin", 2), ("end", 3)]) (g := gTup K 2 (gCons (gName 2) (gCons (gName 3) gNil))) rfl sc_lasting.nd (pi_list (pe_fn F1 hr2 (pa_cons (pv 0) pa_nil))) (blkOk_by (N := ["bounds", "n", "begin", "end"]) (sc := defScope (top 24)) (by decide +kernel)) (fun _ _ _ _ _ => pg_tup rfl (pgs_cons (pg_name (i := 2) sc_lasting.nd rfl (Or.inl rfl)) (pgs_cons (pg_name (i := 3) sc_lasting.nd rfl (Or.inl rfl)) pgs_nil)))
        (fun _ _ _ _ _ => pts_one (PW.pt (pw_or (pt_cmp (pc_isN (pv 3))) (pw_or1 (pt_cmp (pc_ge (pe_op op_sub (pv 3) (pv 2)) (pv 1)))))))
        (fun _ _ _ _ _ => pe_tup (pa_cons (pv 2) (pa_cons (pv 3) pa_nil)))) pa_nil))), ?_⟩
    refine ⟨_, rfl, a, ns, rfl, ha, by omega, fun H1 p1 k1 h1 => ?_⟩
    obtain ⟨ts, hp1, hts⟩ := h1
    have lp := pcs_length ns
    refine ⟨p1, rfl, ⟨_, SqL.of hp1⟩, fun D hD => lc_it (walk_list (K := K) (a := p1) (xs := ts.map V.ref)) (LcP J H1 D (RPc fun i => ((pcs ns).take i).filterMap (lastP n))) (LcP.startPc hD (k1.tab tb) rfl) (fun i H' _ p => SqL.of (p.kp.lst hp1)) (fun i x H' H2 hi p y => ?_) (fun H' p => ?_)⟩
    · obtain ⟨rfl, hx⟩ := y
      obtain ⟨t, ht, rfl⟩ := map_get hx
      obtain ⟨z, hz, hzt⟩ := paired_get (p.kp.pcs hts) ht
      refine ⟨t, _, rfl, SqT.of hzt, rfl, _, _, rfl, _, _, rfl, rfl, rfl, _, rfl, _, rfl, ?_⟩
      have ap : isLast n z = true → (tTup (tCons (tVar 2) (tCons (tVar 3) tNil))) [some (.ref a), some (.int n), some (.int z.1), some (endV z.2)] H2 (fun y H4 => ∃ acc, H4 D = some (.lst acc) ∧ acc.length < sizeLine ∧ LcP J H1 D (RPc fun i => ((pcs ns).take i).filterMap (lastP n)) (i + 1) (upd H4 D (.lst (acc ++ [y])))) := fun c => by
        refine ⟨_, rfl, _, rfl, ?_, fun m hm => ?_⟩
        · show 2 ≤ sizeLine
          decide
        · exact p.appPc (Kp.new hm) upd_same (fm_snoc hz (if_pos c)) (fm_len (by omega))
      obtain ⟨z1, ze⟩ := z
      cases ze with
      | none => exact ifT rfl (ifT rfl (ap rfl))
      | some e =>
        refine ifF rfl ⟨_, rfl, _, rfl, _, _, rfl, rfl, _, rfl, _, _, rfl, rfl, _, rfl, ?_⟩
        cases c : decide (n ≤ e - z1) with
        | true => exact ifT c (ap c)
        | false => exact ifF c (p.skipPc Kp.refl (fm_skip hz (if_neg (by rw [show isLast n (z1, some e) = decide (n ≤ e - z1) from rfl, c]; exact Bool.false_ne_true))))
    · have hpl := p.endPc
      rw [List.length_map, paired_len hts, List.take_length] at hpl
      have kH : Kp J H H' := k1.trans p.kp
      exact ⟨D, _, rfl, hpl, Nat.le_trans (List.length_filterMap_le _ _) (by omega), p.tab, fun H5 q k5 t5 nq hq => k H5 q (kH.trans k5) t5 (nq.back kH) hq⟩
/-! steady_begin -/
def spBeg : Sp := fun vs H Q _ => ∃ (b n : Int), vs = [.int b, .int n] ∧ Q (.int (beginS b n)) H
theorem sc_beg : FnScope ["begin", "n"] ["begin", "n"] (defScope (top 19)) := ⟨rfl, rfl, rfl, by decide +kernel, rfl, by decide +kernel, by decide +kernel⟩
theorem ok_beg (d : DefAt K "steady_begin" (top 19)) (G : Gm K mg) : Fn P w K mg base CX0 1 "steady_begin" ["begin", "n"] spBeg := by
  refine d.fn G sc_beg (fun _ _ _ _ _ _ us hl => match us, hl with | [_, _], _ => rfl) (fun vs H Q E h => ?_) (fun f cdv A outer s H vs Q E hr h => ?_)
  · obtain ⟨e, b, rfl, _⟩ := h
    rfl
  · obtain ⟨b, n, rfl, k⟩ := h
    refine ⟨_, pss_cons (ps_if (pt_cmp (pc_eqI (pv 0) pe_int)) (pss_one (ps_ret pe_int)) pss_nil) (pss_one (ps_ret (pe_op op_add (pv 0) (pv 1)))), ?_⟩
    refine ⟨_, rfl, _, _, rfl, rfl, _, rfl, ?_⟩
    unfold beginS at k
    by_cases c : b = 0
    · rw [if_pos c] at k
      exact ifT (decide_eq_true c) k
    · rw [if_neg c] at k
      exact ifF (decide_eq_false c) ⟨_, rfl, _, rfl, _, _, rfl, rfl, k⟩
/-! steady -/
theorem sc_steady : FnScope ["bounds", "n", "found", "piece"] ["bounds", "n"] (defScope (top 20)) := ⟨rfl, rfl, rfl, by decide +kernel, rfl, by decide +kernel, by decide +kernel⟩
theorem ok_steady (d : DefAt K "steady" (top 20)) (G : Gm K mg) (F1 : Fn P w K mg base CX0 2 "pieces_of" ["bounds"] (spPcs J)) (F2 : Fn P w K mg base CX0 1 "is_longer" ["piece", "begin"] spLong) (F3 : Fn P w K mg base CX0 1 "steady_begin" ["begin", "n"] spBeg) (F4 : Fn P w K mg base CX0 3 "bounds_of" ["pieces"] (spBnd J)) :
    Fn P w K mg base CX0 4 "steady" ["bounds", "n"] (spMk J steadyI) := by
  refine d.fn G sc_steady (fun _ _ _ _ _ _ us hl => match us, hl with | [_, _], _ => rfl) (fun vs H Q E h => ?_) (fun f cdv A outer s H vs Q E hr h => ?_)
  · obtain ⟨a, ns, n, rfl, _⟩ := h
    rfl
  · obtain ⟨a, ns, n, rfl, ha, hl, tb, k⟩ := h
    have hr2 := hr.mono (show 2 ≤ 3 by decide)
    have hr1 := hr.mono (show 1 ≤ 3 by decide)
    refine ⟨_, pss_cons (ps_setLc (i := 2) (own := [("piece", 3)]) (g := gName 3) rfl sc_steady.nd rfl rfl rfl (pi_list (pe_fn F1 hr2 (pa_cons (pv 0) pa_nil))) (blkOk_by (N := ["bounds", "n", "found", "piece"]) (sc := defScope (top 20)) (by decide +kernel)) (fun _ _ _ _ _ => pg_name (i := 3) sc_steady.nd rfl (Or.inl rfl)) (fun _ _ _ _ _ => pts_nil)
        (fun _ _ _ _ _ => pe_tup (pa_cons (pe_fn F3 hr1 (pa_cons (pe_ix (r := rIxT K) ix_tup (pv 3) pe_int (fun _ _ => rfl)) (pa_cons (pv 1) pa_nil))) (pa_cons (pe_ix (r := rIxT K) ix_tup (pv 3) pe_int (fun _ _ => rfl)) pa_nil))))
      (pss_one (ps_ret (pe_fn F4 hr (pa_cons (pe_lc (own := [("piece", 3)]) (g := gName 3) rfl sc_steady.nd (pi_list (pv 2)) (blkOk_by (N := ["bounds", "n", "found", "piece"]) (sc := defScope (top 20)) (by decide +kernel)) (fun _ _ _ _ _ => pg_name (i := 3) sc_steady.nd rfl (Or.inl rfl))
        (fun _ _ _ _ _ => pts_one (pt_val (pe_fn F2 hr1 (pa_cons (pv 3) (pa_cons (pe_ix (r := rIxT K) ix_tup (pv 3) pe_int (fun _ _ => rfl)) pa_nil)))))
        (fun _ _ _ _ _ => pv 3)) pa_nil)))), ?_⟩
    refine ⟨_, rfl, a, ns, rfl, ha, by omega, fun H1 p1 k1 h1 => ?_⟩
    obtain ⟨ts, hp1, hts⟩ := h1
    have lp := pcs_length ns
    refine ⟨p1, rfl, ⟨_, SqL.of hp1⟩, fun D hD => lc_it (walk_list (K := K) (a := p1) (xs := ts.map V.ref)) (LcP J H1 D (RPc fun i => ((pcs ns).take i).filterMap fun x => some (beginS x.1 n, x.2))) (LcP.startPc hD (k1.tab tb) rfl) (fun i H' _ p => SqL.of (p.kp.lst hp1)) (fun i x H' H2 hi p y => ?_) (fun H' p => ?_)⟩
    · obtain ⟨rfl, hx⟩ := y
      obtain ⟨t, ht, rfl⟩ := map_get hx
      obtain ⟨z, hz, hzt⟩ := paired_get (p.kp.pcs hts) ht
      refine ⟨rfl, _, rfl, t, _, 0, V.int z.1, rfl, rfl, SqT.of hzt, by exact atI_nat rfl, _, rfl, z.1, n, rfl, _, rfl, t, _, 1, endV z.2, rfl, rfl, SqT.of hzt, by exact atI_nat rfl, ?_, fun m hm => ?_⟩
      · show 2 ≤ sizeLine
        decide
      · exact p.appPc (Kp.new hm) upd_same (fm_snoc hz rfl) (fm_len (by omega))
    · have hpl := p.endPc
      have kH : Kp J H H' := k1.trans p.kp
      have tH := p.tab
      rw [List.length_map, paired_len hts, List.take_length] at hpl
      obtain ⟨us, hD', hus⟩ := hpl
      have lq : ((pcs ns).filterMap fun x => some (beginS x.1 n, x.2)).length ≤ 3000 := Nat.le_trans (List.length_filterMap_le _ _) (by omega)
      refine ⟨_, rfl, D, rfl, ⟨_, SqL.of hD'⟩, fun D2 hD2 => lc_it (walk_list (K := K) (a := D) (xs := us.map V.ref)) (LcP J H' D2 (RPc fun i => (((pcs ns).filterMap fun x => some (beginS x.1 n, x.2)).take i).filterMap fun x => if endGt x.2 x.1 = true then some x else none)) (LcP.startPc hD2 tH rfl) (fun i H' _ p => SqL.of (p.kp.lst hD')) (fun i x H4 H3 hi p y => ?_) (fun H3 p => ?_)⟩
      · obtain ⟨rfl, hx⟩ := y
        obtain ⟨t, ht, rfl⟩ := map_get hx
        obtain ⟨z, hz, hzt⟩ := paired_get (p.kp.pcs hus) ht
        refine ⟨rfl, _, rfl, _, rfl, t, _, 0, V.int z.1, rfl, rfl, SqT.of hzt, by exact atI_nat rfl, t, z, z.1, rfl, hzt, _, rfl, ?_⟩
        cases c : endGt z.2 z.1 with
        | true => exact ifT rfl ⟨_, rfl, p.appPc Kp.refl hzt (fm_snoc hz (if_pos c)) (fm_len (by omega))⟩
        | false => exact ifF rfl (p.skipPc Kp.refl (fm_skip hz (if_neg (by rw [c]; exact Bool.false_ne_true))))
      · have hpl := p.endPc
        rw [List.length_map, paired_len hus, List.take_length] at hpl
        refine ⟨D2, _, rfl, hpl, Nat.le_trans (List.length_filterMap_le _ _) (by omega), p.tab, fun H5 q k5 t5 nq hq => k H5 q ((kH.trans p.kp).trans k5) t5 (nq.back (kH.trans p.kp)) ?_⟩
        rw [steadyI]
        rw [List.filterMap_filterMap] at hq
        exact hq
end
end Ms
end

/-! text W8 -/
section
set_option Elab.async false
set_option linter.all false
set_option maxRecDepth 100000
set_option maxHeartbeats 4000000
namespace Ms
open PySem PySem.Spec PyProof.Rows L2
def hullI (ns : List Int) : List Int := if ns = [] then [] else if endI ns = true then [ns.headD 0] else [ns.headD 0, ns.getLastD 0]
theorem hullI_end (ns : List Int) : endI (hullI ns) = endI ns := by
  unfold hullI
  split
  · next h => rw [h]
  · split
    · next h => rw [h]; rfl
    · next h => cases c : endI ns with
      | true => exact absurd c h
      | false => simp [endI]
theorem hullI_length (ns : List Int) : (hullI ns).length ≤ 2 := by
  unfold hullI
  split
  · simp
  · split <;> simp
theorem exists_above : ∀ l : List Int, ∃ t : Int, ∀ b ∈ l, b ≤ t
  | [] => ⟨0, fun _ h => by simp at h⟩
  | a :: r => by
    obtain ⟨t, h⟩ := exists_above r
    refine ⟨max a t, fun b hb => ?_⟩
    rcases List.mem_cons.mp hb with rfl | hb
    · omega
    · have := h b hb
      omega
theorem gaps_end {ns marks : List Int} (hm : Marks (hullI ns) ns marks) : endI (combOf (op2 W4.less.op (hullI ns) ns) marks) = false := by
  obtain ⟨h1, h2⟩ := comb2_ok (op := W4.less.op) rfl hm
  obtain ⟨t, ht⟩ := exists_above marks
  have hM : ∀ b ∈ hullI ns ++ ns, b ≤ t := fun b hb => ht b ((hm.mem b).mpr hb)
  rw [← hasI_all (t := t) fun b hb => ht b (comb_mem b hb), h2 t, hasI_all fun b hb => hM b (by simp [hb]), hasI_all fun b hb => hM b (by simp [hb]), hullI_end]
  show (endI ns && !endI ns) = false
  cases endI ns <;> rfl
theorem endI_cons2 (a b : Int) (r : List Int) : endI (a :: b :: r) = endI r := by
  unfold endI
  rw [List.length_cons, List.length_cons, par_succ, par_succ, Bool.not_not]
theorem pcs_ends : ∀ {s : List Int}, endI s = false → ∀ x ∈ pcs s, ∃ e, x.2 = some e
  | [], _, x, h => by simp [pcs] at h
  | [a], h, _, _ => by simp [endI] at h
  | a :: b :: r, h, x, hx => by
    rw [endI_cons2] at h
    rcases List.mem_cons.mp hx with rfl | hx
    · exact ⟨b, rfl⟩
    · exact pcs_ends h x hx
def fillP (n : Int) (x : Pc) : Option Pc := match x.2 with
  | some e => if decide (e - x.1 ≤ n) = true then some x else none
  | none => none
def everyL (b st len : Int) (c : Nat) : List Pc := (List.range c).map fun (i : Nat) => (b + (i : Int) * st, some (b + (i : Int) * st + len))
section
variable {P : Program} {w : World} {K : PySem.W.Frag} {mg : Str → Option Value} {base : Heap} {J : Addr}
/-! hull -/
def spHull (J : Addr) : Sp := fun vs H Q _ => ∃ (a : Addr) (ns : List Int), vs = [.ref a] ∧ IL H a ns ∧ ns.length ≤ 3000 ∧ Tab J H ∧ ∀ H' p, Kp J H H' → Tab J H' → NL H p → IL H' p (hullI ns) → Q (.ref p) H'
theorem sc_hull : FnScope ["bounds"] ["bounds"] (defScope (top 22)) := ⟨rfl, rfl, rfl, by decide +kernel, rfl, by decide +kernel, by decide +kernel⟩
theorem atI_lastD {ns : List Int} (h : ns ≠ []) : atI (ns.map V.int) (-1) = some (V.int (ns.getLastD 0)) := by
  obtain ⟨r, x, rfl⟩ : ∃ r x, ns = r ++ [x] := ⟨ns.dropLast, ns.getLast h, (List.dropLast_concat_getLast h).symm⟩
  rw [List.map_append, List.getLastD_concat]
  exact atI_last _ _
theorem atI_headD {ns : List Int} (h : ns ≠ []) : atI (ns.map V.int) 0 = some (V.int (ns.headD 0)) := by
  cases ns with
  | nil => exact absurd rfl h
  | cons a r => exact atI_nat (j := 0) rfl
theorem ok_hull (d : DefAt K "hull" (top 22)) (G : Gm K mg) (gN : GL K mg "NEVER" []) (F : Fn P w K mg base CX0 1 "is_endless" ["bounds"] (spEnd J)) : Fn P w K mg base CX0 2 "hull" ["bounds"] (spHull J) := by
  obtain ⟨aN, gN, sN⟩ := gN
  refine d.fn G sc_hull (fun _ _ _ _ _ _ us hl => match us, hl with | [_], _ => rfl) (fun vs H Q E h => ?_) (fun f cdv A outer s H vs Q E hr h => ?_)
  · obtain ⟨a, ns, rfl, _⟩ := h
    rfl
  · obtain ⟨a, ns, rfl, ha, hl, tb, k⟩ := h
    refine ⟨_, pss_cons (ps_if (pt_cmpR (op_eqD hr.units) (pv 0) (pe_gcv rfl gN) (nomark _)) (pss_one (ps_ret (pe_lst pa_nil))) pss_nil)
      (pss_cons (ps_if (pt_val (pe_fn F hr (pa_cons (pv 0) pa_nil))) (pss_one (ps_ret (pe_lst (pa_cons (pe_ix ix_list (pv 0) pe_int (fun _ _ => rfl)) pa_nil)))) pss_nil)
      (pss_one (ps_ret (pe_lst (pa_cons (pe_ix ix_list (pv 0) pe_int (fun _ _ => rfl)) (pa_cons (pe_ix ix_list (pv 0) (pe_un un_neg pe_int) (fun _ _ => rfl)) pa_nil)))))), ?_⟩
    refine ⟨_, rfl, _, _, dp_il ha, Dp.lst (sN _) .nil, sh_ints _, rfl, _, rfl, ?_⟩
    have fin : ∀ (p : Addr) (l : List Int), H p = none → l = hullI ns → Q (.ref p) (upd H p (.lst (l.map V.int))) := fun p l hp e => k _ p (Kp.new hp) (tab_new tb hp) (NL.new hp) (by rw [← e]; exact upd_same)
    by_cases c : ns = []
    · subst c
      refine ifT (by rw [eqv_nil]; rfl) ⟨?_, fun p hp => fin p [] hp rfl⟩
      show 0 ≤ sizeLine
      decide
    · refine ifF ?_ ?_
      · rw [eqv_nil]
        cases ns with
        | nil => exact absurd rfl c
        | cons => rfl
      refine ⟨_, rfl, a, ns, rfl, ha, _, rfl, ?_⟩
      cases e : endI ns with
      | true =>
        refine ifT rfl ⟨_, rfl, a, _, 0, _, rfl, rfl, SqL.of ha, atI_headD c, ?_, fun p hp => fin p [_] hp ?_⟩
        · show 1 ≤ sizeLine
          decide
        · rw [hullI, if_neg c, if_pos e]
      | false =>
        refine ifF rfl ⟨_, rfl, a, _, 0, _, rfl, rfl, SqL.of ha, atI_headD c, _, rfl, 1, rfl, a, _, -1, _, rfl, rfl, SqL.of ha, atI_lastD c, ?_, fun p hp => fin p [_, _] hp ?_⟩
        · show 2 ≤ sizeLine
          decide
        · rw [hullI, if_neg c, if_neg (by rw [e]; exact Bool.false_ne_true)]
/-! gaps -/
def spGaps (J : Addr) : Sp := fun vs H Q _ => ∃ (a : Addr) (ns : List Int), vs = [.ref a] ∧ IL H a ns ∧ ns.length ≤ 3000 ∧ Tab J H ∧ ∀ H' p marks, Kp J H H' → Tab J H' → NL H p → Marks (hullI ns) ns marks → IL H' p (combOf (op2 W4.less.op (hullI ns) ns) marks) → Q (.ref p) H'
theorem sc_gaps : FnScope ["bounds"] ["bounds"] (defScope (top 23)) := ⟨rfl, rfl, rfl, by decide +kernel, rfl, by decide +kernel, by decide +kernel⟩
theorem ok_gaps (d : DefAt K "gaps" (top 23)) (G : Gm K mg) (F1 : Fn P w K mg base CX0 2 "combined" ["word", "one", "other"] (spComb J)) (F2 : Fn P w K mg base CX0 2 "hull" ["bounds"] (spHull J)) : Fn P w K mg base CX0 3 "gaps" ["bounds"] (spGaps J) := by
  refine d.fn G sc_gaps (fun _ _ _ _ _ _ us hl => match us, hl with | [_], _ => rfl) (fun vs H Q E h => ?_) (fun f cdv A outer s H vs Q E hr h => ?_)
  · obtain ⟨a, ns, rfl, _⟩ := h
    rfl
  · obtain ⟨a, ns, rfl, ha, hl, tb, k⟩ := h
    refine ⟨_, pss_one (ps_ret (pe_fn F1 hr (pa_cons pe_str (pa_cons (pe_fn F2 hr (pa_cons (pv 0) pa_nil)) (pa_cons (pv 0) pa_nil))))), ?_⟩
    refine ⟨_, rfl, a, ns, rfl, ha, hl, tb, fun H1 p1 k1 t1 n1 h1 => ⟨_, rfl, .less, p1, a, hullI ns, ns, rfl, h1, k1.lst ha, ?_, t1, fun H2 p marks k2 t2 n2 hm hp => k H2 p marks (k1.trans k2) t2 (n2.back k1) hm hp⟩⟩
    have := hullI_length ns
    omega
/-! filled -/
def spFill (J : Addr) : Sp := fun vs H Q _ => ∃ (a : Addr) (ns : List Int) (n : Int), vs = [.ref a, .int n] ∧ IL H a ns ∧ ns.length ≤ 3000 ∧ Tab J H ∧
  ∀ H' p marks, Kp J H H' → Tab J H' → NL H p → Marks (hullI ns) ns marks → IL H' p (boundsI (pcs ns ++ (pcs (combOf (op2 W4.less.op (hullI ns) ns) marks)).filterMap (fillP n))) → Q (.ref p) H'
theorem sc_fill : FnScope ["bounds", "n", "begin", "end"] ["bounds", "n"] (defScope (top 25)) := ⟨rfl, rfl, rfl, by decide +kernel, rfl, by decide +kernel, by decide +kernel⟩
theorem ok_fill (d : DefAt K "filled" (top 25)) (G : Gm K mg) (F1 : Fn P w K mg base CX0 2 "pieces_of" ["bounds"] (spPcs J)) (F3 : Fn P w K mg base CX0 3 "gaps" ["bounds"] (spGaps J)) (F4 : Fn P w K mg base CX0 3 "bounds_of" ["pieces"] (spBnd J)) :
    Fn P w K mg base CX0 4 "filled" ["bounds", "n"] (spFill J) := by
  refine d.fn G sc_fill (fun _ _ _ _ _ _ us hl => match us, hl with | [_, _], _ => rfl) (fun vs H Q E h => ?_) (fun f cdv A outer s H vs Q E hr h => ?_)
  · obtain ⟨a, ns, n, rfl, _⟩ := h
    rfl
  · obtain ⟨a, ns, n, rfl, ha, hl, tb, k⟩ := h
    have hr2 := hr.mono (show 2 ≤ 3 by decide)
    refine ⟨_, pss_one (ps_ret (pe_fn F4 hr (pa_cons (pe_op op_cat (pe_fn F1 hr2 (pa_cons (pv 0) pa_nil))
      (pe_lc (own := [("begin", 2), ("end", 3)]) (g := gTup K 2 (gCons (gName 2) (gCons (gName 3) gNil))) rfl sc_fill.nd (pi_list (pe_fn F1 hr2 (pa_cons (pe_fn F3 hr (pa_cons (pv 0) pa_nil)) pa_nil))) (blkOk_by (N := ["bounds", "n", "begin", "end"]) (sc := defScope (top 25)) (by decide +kernel)) (fun _ _ _ _ _ => pg_tup rfl (pgs_cons (pg_name (i := 2) sc_fill.nd rfl (Or.inl rfl)) (pgs_cons (pg_name (i := 3) sc_fill.nd rfl (Or.inl rfl)) pgs_nil)))
        (fun _ _ _ _ _ => pts_one (pt_cmp (pc_le (pe_op op_sub (pv 3) (pv 2)) (pv 1))))
        (fun _ _ _ _ _ => pe_tup (pa_cons (pv 2) (pa_cons (pv 3) pa_nil))))) pa_nil))), ?_⟩
    refine ⟨_, rfl, a, ns, rfl, ha, by omega, fun H0 p0 k0 h0 => ?_⟩
    refine ⟨_, rfl, a, ns, rfl, k0.lst ha, hl, k0.tab tb, fun Hg pg marks kg tg ng hm hpg => ?_⟩
    have lg := comb_length (g := op2 W4.less.op (hullI ns) ns) (marks := marks)
    have lm : marks.length ≤ 4000 := by
      have h1 := hm.len
      have h2 := hullI_length ns
      omega
    have ge := gaps_end hm
    generalize hs : combOf (op2 W4.less.op (hullI ns) ns) marks = s at hpg lg ge
    refine ⟨pg, s, rfl, hpg, by omega, fun H1 p1 k1 h1 => ?_⟩
    obtain ⟨ts, hp1, hts⟩ := h1
    have lp := pcs_length s
    have lpn := pcs_length ns
    refine ⟨p1, rfl, ⟨_, SqL.of hp1⟩, fun D hD => lc_it (walk_list (K := K) (a := p1) (xs := ts.map V.ref)) (LcP J H1 D (RPc fun i => ((pcs s).take i).filterMap (fillP n))) (LcP.startPc hD (k1.tab tg) rfl) (fun i H' _ p => SqL.of (p.kp.lst hp1)) (fun i x H' H2 hi p y => ?_) (fun H' p => ?_)⟩
    · obtain ⟨rfl, hx⟩ := y
      obtain ⟨t, ht, rfl⟩ := map_get hx
      obtain ⟨z, hz, hzt⟩ := paired_get (p.kp.pcs hts) ht
      obtain ⟨e, he⟩ := pcs_ends ge z (List.mem_of_getElem? hz)
      obtain ⟨z1, ze⟩ := z
      subst he
      refine ⟨t, _, rfl, SqT.of hzt, rfl, _, _, rfl, _, _, rfl, rfl, rfl, _, rfl, _, rfl, _, _, rfl, rfl, _, rfl, _, _, rfl, rfl, _, rfl, ?_⟩
      cases c : decide (e - z1 ≤ n) with
      | true =>
        refine ifT c ⟨_, rfl, _, rfl, ?_, fun m hm => ?_⟩
        · show 2 ≤ sizeLine
          decide
        · exact p.appPc (Kp.new hm) upd_same (fm_snoc hz (if_pos c)) (fm_len (by omega))
      | false => exact ifF c (p.skipPc Kp.refl (fm_skip hz (if_neg (by rw [c]; exact Bool.false_ne_true))))
    · have hpl := p.endPc
      rw [List.length_map, paired_len hts, List.take_length] at hpl
      have kH : Kp J H0 H' := (kg.trans k1).trans p.kp
      obtain ⟨us, hD', hus⟩ := hpl
      obtain ⟨us0, h00, hus0⟩ := kH.pl h0
      have l1 : (List.map V.ref us0).length ≤ 10000 := by rw [List.length_map, paired_len hus0]; omega
      have l2 : ((pcs s).filterMap (fillP n)).length ≤ 10000 := Nat.le_trans (List.length_filterMap_le _ _) (by omega)
      have l3 : (List.map V.ref us).length ≤ 10000 := by rw [List.length_map, paired_len hus]; exact l2
      refine ⟨p0, D, _, _, rfl, rfl, h00, hD', Nat.le_trans (Nat.add_le_add l1 l3) (by decide), fun q hq => ?_⟩
      have kq : Kp J H' (upd H' q (.lst (us0.map V.ref ++ us.map V.ref))) := Kp.new hq
      refine ⟨q, pcs ns ++ (pcs s).filterMap (fillP n), rfl, ⟨us0 ++ us, by rw [upd_same, List.map_append], paired_app (kq.pcs hus0) (kq.pcs hus)⟩, ?_, kq.tab p.tab, fun H5 r k5 t5 nr hr => ?_⟩
      · rw [List.length_append]
        omega
      · have kA := (k0.trans kH).trans kq
        refine k H5 r marks (kA.trans k5) t5 (nr.back kA) hm ?_
        rw [hs]
        exact hr
/-! every -/
def spEvery (J : Addr) : Sp := fun vs H Q _ => ∃ (b st len : Int) (c : Nat), vs = [.int b, .int st, .int len, .int c] ∧ c ≤ 1000 ∧ Tab J H ∧ ∀ H' p, Kp J H H' → Tab J H' → NL H p → IL H' p (boundsI (everyL b st len c)) → Q (.ref p) H'
theorem sc_every : FnScope ["begin", "step", "length", "count", "i"] ["begin", "step", "length", "count"] (defScope (top 26)) := ⟨rfl, rfl, rfl, by decide +kernel, rfl, by decide +kernel, by decide +kernel⟩
theorem ok_every (d : DefAt K "every" (top 26)) (G : Gm K mg) (B : Bi mg) (F4 : Fn P w K mg base CX0 3 "bounds_of" ["pieces"] (spBnd J)) : Fn P w K mg base CX0 4 "every" ["begin", "step", "length", "count"] (spEvery J) := by
  refine d.fn G sc_every (fun _ _ _ _ _ _ us hl => match us, hl with | [_, _, _, _], _ => rfl) (fun vs H Q E h => ?_) (fun f cdv A outer s H vs Q E hr h => ?_)
  · obtain ⟨b, st, len, c, rfl, _⟩ := h
    rfl
  · obtain ⟨b, st, len, c, rfl, hc, tb, k⟩ := h
    refine ⟨_, pss_one (ps_ret (pe_fn F4 hr (pa_cons (pe_lc (own := [("i", 4)]) (g := gName 4) rfl sc_every.nd (pi_range1 (by rfl) B.range (pa_cons (pv 3) pa_nil)) (blkOk_by (N := ["begin", "step", "length", "count", "i"]) (sc := defScope (top 26)) (by decide +kernel)) (fun _ _ _ _ _ => pg_name (i := 4) sc_every.nd rfl (Or.inl rfl)) (fun _ _ _ _ _ => pts_nil)
        (fun _ _ _ _ _ => pe_tup (pa_cons (pe_op op_add (pv 0) (pe_op op_mul (pv 4) (pv 1))) (pa_cons (pe_op op_add (pe_op op_add (pv 0) (pe_op op_mul (pv 4) (pv 1))) (pv 2)) pa_nil)))) pa_nil))), ?_⟩
    refine ⟨_, rfl, (c : Int), rfl, ?_, ?_, fun D hD => lc_it (walk_range (lo := 0) (n := (c : Int).toNat)) (LcP J H D (RPc fun i => everyL b st len i)) (LcP.startPc hD tb rfl) (fun i H' _ p => trivial) (fun i x H' H2 hi p y => ?_) (fun H' p => ?_)⟩
    · omega
    · omega
    · obtain ⟨rfl, rfl⟩ := y
      rw [Int.toNat_natCast] at hi
      have e : (0 : Int) + (i : Int) = i := by omega
      have cm : CMul (0 + (i : Int)) st := .inl ⟨by omega, by omega⟩
      refine ⟨rfl, _, rfl, _, rfl, _, rfl, _, _, rfl, rfl, cm, _, _, rfl, rfl, _, rfl, _, rfl, _, rfl, _, _, rfl, rfl, cm, _, _, rfl, rfl, _, rfl, _, _, rfl, rfl, ?_, fun m hm => ?_⟩
      · show 2 ≤ sizeLine
        decide
      · refine p.appPc (y := (b + (0 + (i : Int)) * st, some (b + (0 + (i : Int)) * st + len))) (Kp.new hm) upd_same ?_ ?_
        · unfold everyL
          rw [List.range_succ, List.map_append, e]
          rfl
        · unfold everyL
          rw [List.length_map, List.length_range]
          omega
    · have hpl := p.endPc
      rw [Int.toNat_natCast] at hpl
      refine ⟨D, _, rfl, hpl, ?_, p.tab, fun H5 q k5 t5 nq hq => k H5 q (p.kp.trans k5) t5 (nq.back p.kp) hq⟩
      unfold everyL
      rw [List.length_map, List.length_range]
      omega
end
end Ms
end

/-! text W9 -/
section
set_option Elab.async false
set_option linter.all false
set_option maxRecDepth 100000
set_option maxHeartbeats 4000000
namespace Ms
open PySem PySem.Spec PyProof.Rows L2
def lenP (x : Pc) : Int := (x.2.getD 0) - x.1
def sizeI (ns : List Int) : Int := ((pcs ns).map lenP).sum
def nextI (ns : List Int) (m : Int) : Option Int := if hasI ns m = true then some m else ((pcs ns).find? fun x => decide (m < x.1)).map (·.1)
def prevI (s : List Int) : Option Int := if s = [] then none else some (s.getLastD 0 - 1)
def nthP : List Pc → Int → Option Int
  | [], _ => none
  | x :: r, n => match x.2 with
    | none => some (x.1 + n)
    | some e => if n < e - x.1 then some (x.1 + n) else nthP r (n - (e - x.1))
def bI (b : Bool) : Int := if b then 1 else 0
def ordI (a b : Option Int) : Int := match a, b with
  | some i, some j => bI (decide (j < i)) - bI (decide (i < j))
  | a, b => bI a.isNone - bI b.isNone
def apartI (a : Int) (b : Option Int) (c : Int) (d : Option Int) : Int :=
  if (b.isSome && decide (ordI b (some c) ≤ 0)) = true then 2 + ordI b (some c) else if (d.isSome && decide (ordI d (some a) ≤ 0)) = true then 12 - ordI d (some a) else 0
def allenI (x y : Pc) : Int :=
  if 0 < apartI x.1 x.2 y.1 y.2 then apartI x.1 x.2 y.1 y.2 else
    (([[3, 8, 9], [4, 7, 10], [5, 6, 11]] : List (List Int)).getD (ordI (some x.1) (some y.1) + 1).toNat []).getD (ordI x.2 y.2 + 1).toNat 0
section
variable {P : Program} {w : World} {K : PySem.W.Frag} {mg : Str → Option Value} {base : Heap} {J : Addr}
/-! moments_in -/
def spMom : Sp := fun vs H Q _ => ∃ (t : Addr) (x : Pc), vs = [.ref t] ∧ PcAt H t x ∧ x.2.isSome = true ∧ Q (.int (lenP x)) H
theorem sc_mom : FnScope ["piece"] ["piece"] (defScope (top 28)) := ⟨rfl, rfl, rfl, by decide +kernel, rfl, by decide +kernel, by decide +kernel⟩
theorem ok_mom (d : DefAt K "moments_in" (top 28)) (G : Gm K mg) : Fn P w K mg base CX0 1 "moments_in" ["piece"] spMom := by
  refine d.fn G sc_mom (fun _ _ _ _ _ _ us hl => match us, hl with | [_], _ => rfl) (fun vs H Q E h => ?_) (fun f cdv A outer s H vs Q E hr h => ?_)
  · obtain ⟨t, x, rfl, _⟩ := h
    rfl
  · obtain ⟨t, ⟨x1, e⟩, rfl, ht, he, k⟩ := h
    cases e with
    | none => cases he
    | some e =>
      refine ⟨_, pss_one (ps_ret (pe_op op_sub (pe_ix ix_tup (pv 0) pe_int (fun _ _ => rfl)) (pe_ix ix_tup (pv 0) pe_int (fun _ _ => rfl)))), ?_⟩
      exact ⟨_, rfl, t, _, 1, V.int e, rfl, rfl, SqT.of ht, by exact atI_nat rfl, _, rfl, t, _, 0, V.int x1, rfl, rfl, SqT.of ht, by exact atI_nat rfl, _, _, rfl, rfl, k⟩
/-! size -/
def spSize (J : Addr) : Sp := fun vs H Q _ => ∃ (a : Addr) (ns : List Int), vs = [.ref a] ∧ IL H a ns ∧ ns.length ≤ 10000 ∧ endI ns = false ∧ Tab J H ∧ ∀ H', Kp J H H' → Tab J H' → Q (.int (sizeI ns)) H'
theorem sc_size : FnScope ["bounds", "piece"] ["bounds"] (defScope (top 29)) := ⟨rfl, rfl, rfl, by decide +kernel, rfl, by decide +kernel, by decide +kernel⟩
theorem ok_size (d : DefAt K "size" (top 29)) (G : Gm K mg) (B : Bi mg) (F1 : Fn P w K mg base CX0 2 "pieces_of" ["bounds"] (spPcs J)) (F2 : Fn P w K mg base CX0 1 "moments_in" ["piece"] spMom) : Fn P w K mg base CX0 3 "size" ["bounds"] (spSize J) := by
  refine d.fn G sc_size (fun _ _ _ _ _ _ us hl => match us, hl with | [_], _ => rfl) (fun vs H Q E h => ?_) (fun f cdv A outer s H vs Q E hr h => ?_)
  · obtain ⟨a, ns, rfl, _⟩ := h
    rfl
  · obtain ⟨a, ns, rfl, ha, hl, he, tb, k⟩ := h
    have hr1 := hr.mono (show 1 ≤ 2 by decide)
    refine ⟨_, pss_one (ps_ret (pe_callB (cr_sum rfl) (by rfl) B.sum (by decide +kernel) (pa_cons (pe_lc (own := [("piece", 1)]) (g := gName 1) rfl sc_size.nd (pi_list (pe_fn F1 hr (pa_cons (pv 0) pa_nil))) (blkOk_by (N := ["bounds", "piece"]) (sc := defScope (top 29)) (by decide +kernel)) (fun _ _ _ _ _ => pg_name (i := 1) sc_size.nd rfl (Or.inl rfl)) (fun _ _ _ _ _ => pts_nil)
        (fun _ _ _ _ _ => pe_fn F2 hr1 (pa_cons (pv 1) pa_nil))) pa_nil))), ?_⟩
    refine ⟨_, rfl, a, ns, rfl, ha, by omega, fun H1 p1 k1 h1 => ?_⟩
    obtain ⟨ts, hp1, hts⟩ := h1
    have lp := pcs_length ns
    refine ⟨p1, rfl, ⟨_, SqL.of hp1⟩, fun D hD => lc_it (walk_list (K := K) (a := p1) (xs := ts.map V.ref)) (LcP J H1 D (RIn fun i => ((pcs ns).take i).map lenP)) (LcP.startI hD (k1.tab tb) rfl) (fun i H' _ p => SqL.of (p.kp.lst hp1)) (fun i x H' H2 hi p y => ?_) (fun H' p => ?_)⟩
    · obtain ⟨rfl, hx⟩ := y
      obtain ⟨t, ht, rfl⟩ := map_get hx
      obtain ⟨z, hz, hzt⟩ := paired_get (p.kp.pcs hts) ht
      obtain ⟨e, hze⟩ := pcs_ends he z (List.mem_of_getElem? hz)
      refine ⟨rfl, _, rfl, t, z, rfl, hzt, by rw [hze]; rfl, p.appI Kp.refl ?_ ?_⟩
      · rw [take_snoc hz, List.map_append]
        rfl
      · rw [List.length_map, List.length_take]
        omega
    · have hpl := p.endI
      rw [List.length_map, paired_len hts, List.take_length] at hpl
      exact ⟨D, _, rfl, SqL.of hpl, k _ (k1.trans p.kp) p.tab⟩
/-! next_of -/
def spNext (J : Addr) : Sp := fun vs H Q _ => ∃ (a : Addr) (ns : List Int) (m : Int), vs = [.ref a, .int m] ∧ IL H a ns ∧ ns.length ≤ 10000 ∧ Tab J H ∧ ∀ H', Kp J H H' → Tab J H' → Q (endV (nextI ns m)) H'
theorem sc_next : FnScope ["bounds", "moment", "begin", "end"] ["bounds", "moment"] (defScope (top 30)) := ⟨rfl, rfl, rfl, by decide +kernel, rfl, by decide +kernel, by decide +kernel⟩
theorem ok_next (d : DefAt K "next_of" (top 30)) (G : Gm K mg) (F1 : Fn P w K mg base CX0 1 "is_in" ["bounds", "moment"] (spIsIn J)) (F2 : Fn P w K mg base CX0 2 "pieces_of" ["bounds"] (spPcs J)) : Fn P w K mg base CX0 3 "next_of" ["bounds", "moment"] (spNext J) := by
  refine d.fn G sc_next (fun _ _ _ _ _ _ us hl => match us, hl with | [_, _], _ => rfl) (fun vs H Q E h => ?_) (fun f cdv A outer s H vs Q E hr h => ?_)
  · obtain ⟨a, ns, m, rfl, _⟩ := h
    rfl
  · obtain ⟨a, ns, m, rfl, ha, hl, tb, k⟩ := h
    have hr1 := hr.mono (show 1 ≤ 2 by decide)
    refine ⟨_, pss_cons (ps_if (pt_val (pe_fn F1 hr1 (pa_cons (pv 0) (pa_cons (pv 1) pa_nil)))) (pss_one (ps_ret (pv 1))) pss_nil)
      (pss_cons (ps_for PassesOwn.never rfl (pi_list (pe_fn F2 hr (pa_cons (pv 0) pa_nil))) (pg_tup rfl (pgs_cons (pg_name (i := 2) sc_next.nd rfl (Or.inl rfl)) (pgs_cons (pg_name (i := 3) sc_next.nd rfl (Or.inl rfl)) pgs_nil)))
        (pss_one (ps_if (pt_cmp (pc_gt (pv 2) (pv 1))) (pss_one (ps_ret (pv 2))) pss_nil)))
      (pss_one (ps_ret pe_non))), ?_⟩
    refine ⟨_, rfl, _, rfl, a, ns, m, rfl, ha, by omega, tb, fun H0 k0 => ⟨_, rfl, ?_⟩⟩
    unfold nextI at k
    cases c : hasI ns m with
    | true =>
      rw [if_pos c] at k
      exact ifT rfl ⟨_, rfl, k _ k0 (k0.tab tb)⟩
    | false =>
      rw [if_neg (by rw [c]; exact Bool.false_ne_true)] at k
      refine ifF rfl ?_
      refine ⟨_, rfl, a, ns, rfl, k0.lst ha, by omega, fun H1 p1 k1 h1 => ?_⟩
      obtain ⟨ts, hp1, hts⟩ := h1
      have kk := k0.trans k1
      refine ⟨p1, rfl, ⟨_, SqL.of hp1⟩, for_it (walk_list (K := K) (a := p1) (xs := ts.map V.ref)) (fun i σ H' => H' = H1 ∧ (∃ v2 v3, σ = [some (.ref a), some (.int m), v2, v3]) ∧ ((pcs ns).take i).find? (fun x => decide (m < x.1)) = none)
        ⟨rfl, ⟨_, _, rfl⟩, rfl⟩ (fun i σ H' _ q => by rw [q.1]; exact SqL.of hp1) (fun i x σ H' H3 hi q y => ?_) (fun σ H' q => ?_)⟩
      · obtain ⟨rfl, ⟨v2, v3, rfl⟩, hq⟩ := q
        obtain ⟨rfl, hx⟩ := y
        obtain ⟨t, ht, rfl⟩ := map_get hx
        obtain ⟨z, hz, hzt⟩ := paired_get hts ht
        refine ⟨t, _, rfl, SqT.of hzt, rfl, _, _, rfl, _, _, rfl, rfl, _, rfl, _, rfl, _, _, rfl, rfl, _, rfl, ?_⟩
        by_cases cz : m < z.1
        · refine ifT (decide_eq_true cz) ⟨_, rfl, ?_⟩
          have e : (pcs ns).find? (fun x => decide (m < x.1)) = some z := by
            rw [← List.take_append_drop (i + 1) (pcs ns), take_snoc hz, List.append_assoc, List.find?_append, hq]
            simp [cz]
          rw [e] at k
          exact k _ kk (kk.tab tb)
        · refine ifF (decide_eq_false cz) ⟨rfl, ⟨_, _, rfl⟩, ?_⟩
          rw [take_snoc hz, List.find?_append, hq]
          simp
          omega
      · obtain ⟨rfl, _, hq⟩ := q
        rw [List.length_map, paired_len hts, List.take_length] at hq
        rw [hq] at k
        exact k _ kk (kk.tab tb)
/-! up_to -/
def spUpTo (J : Addr) : Sp := fun vs H Q _ => ∃ (a : Addr) (ns : List Int) (m : Int), vs = [.ref a, .int m] ∧ IL H a ns ∧ ns.length ≤ 3000 ∧ Tab J H ∧
  ∀ H' p marks, Kp J H H' → Tab J H' → NL H p → Marks ns [m] marks → IL H' p (combOf (op2 W4.less.op ns [m]) marks) → Q (.ref p) H'
theorem sc_upto : FnScope ["bounds", "moment"] ["bounds", "moment"] (defScope (top 31)) := ⟨rfl, rfl, rfl, by decide +kernel, rfl, by decide +kernel, by decide +kernel⟩
theorem ok_upto (d : DefAt K "up_to" (top 31)) (G : Gm K mg) (F : Fn P w K mg base CX0 2 "combined" ["word", "one", "other"] (spComb J)) : Fn P w K mg base CX0 3 "up_to" ["bounds", "moment"] (spUpTo J) := by
  refine d.fn G sc_upto (fun _ _ _ _ _ _ us hl => match us, hl with | [_, _], _ => rfl) (fun vs H Q E h => ?_) (fun f cdv A outer s H vs Q E hr h => ?_)
  · obtain ⟨a, ns, m, rfl, _⟩ := h
    rfl
  · obtain ⟨a, ns, m, rfl, ha, hl, tb, k⟩ := h
    refine ⟨_, pss_one (ps_ret (pe_fn F hr (pa_cons pe_str (pa_cons (pv 0) (pa_cons (pe_lst (pa_cons (pv 1) pa_nil)) pa_nil))))), ?_⟩
    refine ⟨_, rfl, _, rfl, ?_, fun l hl0 => ?_⟩
    · show 1 ≤ sizeLine
      decide
    have k0 : Kp J H (upd H l (.lst [.int m])) := Kp.new hl0
    refine ⟨.less, a, l, ns, [m], rfl, k0.lst ha, upd_same, ?_, k0.tab tb, fun H' p marks kk tk nl hm hp => k H' p marks (k0.trans kk) tk (nl.back k0) hm hp⟩
    simp
    omega
/-! previous_of -/
def spPrev (J : Addr) : Sp := fun vs H Q _ => ∃ (a : Addr) (ns : List Int) (m : Int), vs = [.ref a, .int m] ∧ IL H a ns ∧ ns.length ≤ 3000 ∧ Tab J H ∧
  ∀ H' marks, Kp J H H' → Tab J H' → Marks ns [m + 1] marks → Q (endV (prevI (combOf (op2 W4.less.op ns [m + 1]) marks))) H'
theorem sc_prev : FnScope ["bounds", "moment", "found"] ["bounds", "moment"] (defScope (top 32)) := ⟨rfl, rfl, rfl, by decide +kernel, rfl, by decide +kernel, by decide +kernel⟩
theorem ok_prev (d : DefAt K "previous_of" (top 32)) (G : Gm K mg) (F : Fn P w K mg base CX0 3 "up_to" ["bounds", "moment"] (spUpTo J)) : Fn P w K mg base CX0 4 "previous_of" ["bounds", "moment"] (spPrev J) := by
  refine d.fn G sc_prev (fun _ _ _ _ _ _ us hl => match us, hl with | [_, _], _ => rfl) (fun vs H Q E h => ?_) (fun f cdv A outer s H vs Q E hr h => ?_)
  · obtain ⟨a, ns, m, rfl, _⟩ := h
    rfl
  · obtain ⟨a, ns, m, rfl, ha, hl, tb, k⟩ := h
    refine ⟨_, pss_cons (ps_set (i := 2) sc_prev.nd rfl (Or.inl rfl) (pe_fn F hr (pa_cons (pv 0) (pa_cons (pe_op op_add (pv 1) pe_int) pa_nil))))
      (pss_cons (ps_if (pt_cmpR (op_eqD hr.units) (pv 2) (pe_lst pa_nil) (nomark _)) (pss_one (ps_ret pe_non)) pss_nil)
      (pss_one (ps_ret (pe_op op_sub (pe_ix ix_list (pv 2) (pe_un un_neg pe_int) (fun _ _ => rfl)) pe_int)))), ?_⟩
    refine ⟨_, rfl, _, rfl, _, _, rfl, rfl, a, ns, m + 1, rfl, ha, hl, tb, fun H1 p marks k1 t1 n1 hm hp => ?_⟩
    have kz := fun H' z => k H' marks z
    generalize combOf (op2 W4.less.op ns [m + 1]) marks = s at hp kz
    refine ⟨_, rfl, ?_, fun l hl0 => ?_⟩
    · show 0 ≤ sizeLine
      decide
    have k2 : Kp J H1 (upd H1 l (.lst [])) := Kp.new hl0
    have hp2 := k2.lst hp
    refine ⟨_, _, dp_il (K := K) hp2, Dp.lst (SqL.of upd_same) .nil, sh_ints _, rfl, _, rfl, ?_⟩
    have kq := kz _ (k1.trans k2) (k2.tab t1) hm
    unfold prevI at kq
    by_cases c : s = []
    · rw [if_pos c] at kq
      subst c
      exact ifT (by rw [eqv_nil]; rfl) kq
    · rw [if_neg c] at kq
      refine ifF ?_ ?_
      · rw [eqv_nil]
        cases s with
        | nil => exact absurd rfl c
        | cons => rfl
      exact ⟨_, rfl, 1, rfl, p, _, -1, _, rfl, rfl, SqL.of hp2, atI_lastD c, _, _, rfl, rfl, kq⟩
end
end Ms
end

/-! text W10 -/
section
set_option Elab.async false
set_option linter.all false
set_option maxRecDepth 100000
set_option maxHeartbeats 4000000
namespace Ms
open PySem PySem.Spec PyProof.Rows L2
theorem upto_end {ns marks : List Int} {m : Int} (hm : Marks ns [m] marks) : endI (combOf (op2 W4.less.op ns [m]) marks) = false := by
  obtain ⟨h1, h2⟩ := comb2_ok (op := W4.less.op) rfl hm
  obtain ⟨t, ht⟩ := exists_above marks
  have hM : ∀ b ∈ ns ++ [m], b ≤ t := fun b hb => ht b ((hm.mem b).mpr hb)
  rw [← hasI_all (t := t) fun b hb => ht b (comb_mem b hb), h2 t, hasI_all (s := [m]) fun b hb => hM b (by simp at hb; simp [hb])]
  show (_ && !true) = false
  simp
section
variable {P : Program} {w : World} {K : PySem.W.Frag} {mg : Str → Option Value} {base : Heap} {J : Addr}
/-! nth_of -/
def spNth (J : Addr) : Sp := fun vs H Q _ => ∃ (a : Addr) (ns : List Int) (n : Int), vs = [.ref a, .int n] ∧ IL H a ns ∧ ns.length ≤ 10000 ∧ Tab J H ∧ ∀ H', Kp J H H' → Tab J H' → Q (endV (nthP (pcs ns) n)) H'
theorem sc_nth : FnScope ["bounds", "n", "begin", "end"] ["bounds", "n"] (defScope (top 33)) := ⟨rfl, rfl, rfl, by decide +kernel, rfl, by decide +kernel, by decide +kernel⟩
theorem ok_nth (d : DefAt K "nth_of" (top 33)) (G : Gm K mg) (F2 : Fn P w K mg base CX0 2 "pieces_of" ["bounds"] (spPcs J)) : Fn P w K mg base CX0 3 "nth_of" ["bounds", "n"] (spNth J) := by
  refine d.fn G sc_nth (fun _ _ _ _ _ _ us hl => match us, hl with | [_, _], _ => rfl) (fun vs H Q E h => ?_) (fun f cdv A outer s H vs Q E hr h => ?_)
  · obtain ⟨a, ns, m, rfl, _⟩ := h
    rfl
  · obtain ⟨a, ns, n, rfl, ha, hl, tb, k⟩ := h
    refine ⟨_, pss_cons (ps_for PassesOwn.never rfl (pi_list (pe_fn F2 hr (pa_cons (pv 0) pa_nil))) (pg_tup rfl (pgs_cons (pg_name (i := 2) sc_nth.nd rfl (Or.inl rfl)) (pgs_cons (pg_name (i := 3) sc_nth.nd rfl (Or.inl rfl)) pgs_nil)))
        (pss_cons (ps_if (PW.pt (pw_or (pt_cmp (pc_isN (pv 3))) (pw_or1 (pt_cmp (pc_lt (pv 1) (pe_op op_sub (pv 3) (pv 2))))))) (pss_one (ps_ret (pe_op op_add (pv 2) (pv 1)))) pss_nil)
        (pss_one (ps_aug (i := 1) sc_nth.nd rfl (Or.inl rfl) (pe_op op_sub (pv 3) (pv 2)) ip_sub))))
      (pss_one (ps_ret pe_non)), ?_⟩
    refine ⟨_, rfl, a, ns, rfl, ha, by omega, fun H1 p1 k1 h1 => ?_⟩
    obtain ⟨ts, hp1, hts⟩ := h1
    refine ⟨p1, rfl, ⟨_, SqL.of hp1⟩, for_it (walk_list (K := K) (a := p1) (xs := ts.map V.ref)) (fun i σ H' => H' = H1 ∧ ∃ (m : Int) (v2 v3 : Option V), σ = [some (.ref a), some (.int m), v2, v3] ∧ nthP (pcs ns) n = nthP ((pcs ns).drop i) m)
        ⟨rfl, n, _, _, rfl, rfl⟩ (fun i σ H' _ q => by rw [q.1]; exact SqL.of hp1) (fun i x σ H' H3 hi q y => ?_) (fun σ H' q => ?_)⟩
    · obtain ⟨rfl, m, v2, v3, rfl, hq⟩ := q
      obtain ⟨rfl, hx⟩ := y
      obtain ⟨t, ht, rfl⟩ := map_get hx
      obtain ⟨z, hz, hzt⟩ := paired_get hts ht
      have dz : (pcs ns).drop i = z :: (pcs ns).drop (i + 1) := by
        obtain ⟨hlt, e⟩ := List.getElem?_eq_some_iff.mp hz
        rw [← e]
        exact List.drop_eq_getElem_cons hlt
      rw [dz] at hq
      refine ⟨t, _, rfl, SqT.of hzt, rfl, _, _, rfl, _, _, rfl, rfl, _, rfl, _, rfl, ?_⟩
      obtain ⟨z1, ze⟩ := z
      cases ze with
      | none =>
        rw [show nthP ((z1, none) :: (pcs ns).drop (i + 1)) m = some (z1 + m) from rfl] at hq
        rw [hq] at k
        exact ifT rfl (ifT rfl ⟨_, rfl, _, rfl, _, _, rfl, rfl, k _ k1 (k1.tab tb)⟩)
      | some e =>
        rw [show nthP ((z1, some e) :: (pcs ns).drop (i + 1)) m = if m < e - z1 then some (z1 + m) else nthP ((pcs ns).drop (i + 1)) (m - (e - z1)) from rfl] at hq
        refine ifF rfl ⟨_, rfl, _, rfl, _, rfl, _, _, rfl, rfl, _, _, rfl, rfl, _, rfl, ?_⟩
        by_cases c : m < e - z1
        · rw [if_pos c] at hq
          rw [hq] at k
          exact ifT (decide_eq_true c) ⟨_, rfl, _, rfl, _, _, rfl, rfl, k _ k1 (k1.tab tb)⟩
        · rw [if_neg c] at hq
          exact ifF (decide_eq_false c) ⟨_, rfl, _, rfl, _, rfl, _, _, rfl, rfl, _, _, rfl, rfl, rfl, _, _, _, rfl, hq⟩
    · obtain ⟨rfl, m, v2, v3, rfl, hq⟩ := q
      rw [List.length_map, paired_len hts, List.drop_length] at hq
      rw [hq] at k
      exact k _ k1 (k1.tab tb)
/-! rank -/
def spRank (J : Addr) : Sp := fun vs H Q _ => ∃ (a : Addr) (ns : List Int) (m : Int), vs = [.ref a, .int m] ∧ IL H a ns ∧ ns.length ≤ 3000 ∧ Tab J H ∧
  ∀ H' marks, Kp J H H' → Tab J H' → Marks ns [m] marks → Q (.int (sizeI (combOf (op2 W4.less.op ns [m]) marks))) H'
theorem sc_rank : FnScope ["bounds", "moment"] ["bounds", "moment"] (defScope (top 34)) := ⟨rfl, rfl, rfl, by decide +kernel, rfl, by decide +kernel, by decide +kernel⟩
theorem ok_rank (d : DefAt K "rank" (top 34)) (G : Gm K mg) (F1 : Fn P w K mg base CX0 3 "up_to" ["bounds", "moment"] (spUpTo J)) (F2 : Fn P w K mg base CX0 3 "size" ["bounds"] (spSize J)) : Fn P w K mg base CX0 4 "rank" ["bounds", "moment"] (spRank J) := by
  refine d.fn G sc_rank (fun _ _ _ _ _ _ us hl => match us, hl with | [_, _], _ => rfl) (fun vs H Q E h => ?_) (fun f cdv A outer s H vs Q E hr h => ?_)
  · obtain ⟨a, ns, m, rfl, _⟩ := h
    rfl
  · obtain ⟨a, ns, m, rfl, ha, hl, tb, k⟩ := h
    refine ⟨_, pss_one (ps_ret (pe_fn F2 hr (pa_cons (pe_fn F1 hr (pa_cons (pv 0) (pa_cons (pv 1) pa_nil))) pa_nil))), ?_⟩
    refine ⟨_, rfl, _, rfl, a, ns, m, rfl, ha, hl, tb, fun H1 p marks k1 t1 n1 hm hp => ⟨p, _, rfl, hp, ?_, upto_end hm, t1, fun H2 k2 t2 => k H2 marks (k1.trans k2) t2 hm⟩⟩
    have h1 := comb_length (g := op2 W4.less.op ns [m]) (marks := marks)
    have h2 := hm.len
    simp at h2
    omega
/-! relation -/
def relI (o1 o2 o3 o4 : List Int) : Int := bI (!o1.isEmpty) + 2 * bI (!o2.isEmpty) + 4 * bI (!o3.isEmpty) + 8 * bI (!o4.isEmpty)
def spRel (J : Addr) : Sp := fun vs H Q _ => ∃ (a b : Addr) (one two : List Int), vs = [.ref a, .ref b] ∧ IL H a one ∧ IL H b two ∧ one.length + two.length ≤ 3000 ∧ Tab J H ∧
  ∀ H' m1 m2 m3 m4 m5, Kp J H H' → Tab J H' → Marks one two m1 → Marks two one m2 → Marks one two m3 → Marks one two m4 → Marks (combOf (op2 W4.either.op one two) m4) [0] m5 →
    Q (.int (relI (combOf (op2 W4.less.op one two) m1) (combOf (op2 W4.less.op two one) m2) (combOf (op2 W4.both.op one two) m3) (combOf (op2 W4.odd.op (combOf (op2 W4.either.op one two) m4) [0]) m5))) H'
theorem sc_rel : FnScope ["one", "two", "total"] ["one", "two"] (defScope (top 35)) := ⟨rfl, rfl, rfl, by decide +kernel, rfl, by decide +kernel, by decide +kernel⟩
theorem ok_rel (d : DefAt K "relation" (top 35)) (G : Gm K mg) (B : Bi mg) (F1 : Fn P w K mg base CX0 2 "combined" ["word", "one", "other"] (spComb J)) (F2 : Fn P w K mg base CX0 3 "other" ["bounds"] (spOther J)) : Fn P w K mg base CX0 4 "relation" ["one", "two"] (spRel J) := by
  refine d.fn G sc_rel (fun _ _ _ _ _ _ us hl => match us, hl with | [_, _], _ => rfl) (fun vs H Q E h => ?_) (fun f cdv A outer s H vs Q E hr h => ?_)
  · obtain ⟨a, b, one, two, rfl, _⟩ := h
    rfl
  · obtain ⟨a, b, one, two, rfl, ha, hb, hl, tb, k⟩ := h
    have hr2 := hr.mono (show 2 ≤ 3 by decide)
    refine ⟨_, pss_cons (ps_set (i := 2) sc_rel.nd rfl (Or.inl rfl) (pe_callTy call_int1 (by rfl) B.int (by decide +kernel) (pa_cons (pe_cmpR (op_neD hr.units) (pe_fn F1 hr2 (pa_cons pe_str (pa_cons (pv 0) (pa_cons (pv 1) pa_nil)))) (pe_lst pa_nil) (nomark _)) pa_nil)))
      (pss_cons (ps_aug (i := 2) sc_rel.nd rfl (Or.inl rfl) (pe_op op_mul pe_int (pe_callTy call_int1 (by rfl) B.int (by decide +kernel) (pa_cons (pe_cmpR (op_neD hr.units) (pe_fn F1 hr2 (pa_cons pe_str (pa_cons (pv 1) (pa_cons (pv 0) pa_nil)))) (pe_lst pa_nil) (nomark _)) pa_nil))) ip_add)
      (pss_cons (ps_aug (i := 2) sc_rel.nd rfl (Or.inl rfl) (pe_op op_mul pe_int (pe_callTy call_int1 (by rfl) B.int (by decide +kernel) (pa_cons (pe_cmpR (op_neD hr.units) (pe_fn F1 hr2 (pa_cons pe_str (pa_cons (pv 0) (pa_cons (pv 1) pa_nil)))) (pe_lst pa_nil) (nomark _)) pa_nil))) ip_add)
      (pss_one (ps_ret (pe_op op_add (pv 2) (pe_op op_mul pe_int (pe_callTy call_int1 (by rfl) B.int (by decide +kernel) (pa_cons (pe_cmpR (op_neD hr.units) (pe_fn F2 hr (pa_cons (pe_fn F1 hr2 (pa_cons pe_str (pa_cons (pv 0) (pa_cons (pv 1) pa_nil)))) pa_nil)) (pe_lst pa_nil) (nomark _)) pa_nil)))))))), ?_⟩
    have sz : 0 ≤ sizeLine := Nat.zero_le _
    refine ⟨_, rfl, _, rfl, .less, a, b, one, two, rfl, ha, hb, by omega, tb, fun H1 p1 m1 k1 t1 n1 hm1 h1 => ⟨sz, fun e1 he1 => ?_⟩⟩
    have j1 : Kp J H1 (upd H1 e1 (.lst [])) := Kp.new he1
    refine ⟨_, _, dp_il (K := K) (j1.lst h1), Dp.lst (SqL.of upd_same) .nil, sh_ints _, rfl, .inr ⟨_, rfl, ?_⟩⟩
    have q1 := k1.trans j1
    refine ⟨_, rfl, _, rfl, _, rfl, .less, b, a, two, one, rfl, q1.lst hb, q1.lst ha, by omega, j1.tab t1, fun H2 p2 m2 k2 t2 n2 hm2 h2 => ⟨sz, fun e2 he2 => ?_⟩⟩
    have j2 : Kp J H2 (upd H2 e2 (.lst [])) := Kp.new he2
    refine ⟨_, _, dp_il (K := K) (j2.lst h2), Dp.lst (SqL.of upd_same) .nil, sh_ints _, rfl, .inr ⟨_, rfl, _, _, rfl, rfl, .inl ⟨by decide, by decide⟩, _, _, rfl, rfl, ?_⟩⟩
    have q2 := (q1.trans k2).trans j2
    refine ⟨_, rfl, _, rfl, _, rfl, .both, a, b, one, two, rfl, q2.lst ha, q2.lst hb, by omega, j2.tab t2, fun H3 p3 m3 k3 t3 n3 hm3 h3 => ⟨sz, fun e3 he3 => ?_⟩⟩
    have j3 : Kp J H3 (upd H3 e3 (.lst [])) := Kp.new he3
    refine ⟨_, _, dp_il (K := K) (j3.lst h3), Dp.lst (SqL.of upd_same) .nil, sh_ints _, rfl, .inr ⟨_, rfl, _, _, rfl, rfl, .inl ⟨by decide, by decide⟩, _, _, rfl, rfl, ?_⟩⟩
    have q3 := (q2.trans k3).trans j3
    refine ⟨_, rfl, _, rfl, _, rfl, .either, a, b, one, two, rfl, q3.lst ha, q3.lst hb, by omega, j3.tab t3, fun H4 p4 m4 k4 t4 n4 hm4 h4 => ?_⟩
    have l4 := comb_length (g := op2 W4.either.op one two) (marks := m4)
    have l4' := hm4.len
    refine ⟨p4, _, rfl, h4, by omega, t4, fun H5 p5 m5 k5 t5 n5 hm5 h5 => ⟨sz, fun e5 he5 => ?_⟩⟩
    have j5 : Kp J H5 (upd H5 e5 (.lst [])) := Kp.new he5
    refine ⟨_, _, dp_il (K := K) (j5.lst h5), Dp.lst (SqL.of upd_same) .nil, sh_ints _, rfl, .inr ⟨_, rfl, _, _, rfl, rfl, .inl ⟨by decide, by decide⟩, _, _, rfl, rfl, ?_⟩⟩
    have z := k _ m1 m2 m3 m4 m5 (((q3.trans k4).trans k5).trans j5) (j5.tab t5) hm1 hm2 hm3 hm4 hm5
    rw [eqv_nil, eqv_nil, eqv_nil, eqv_nil]
    unfold relI bI at z
    rw [List.isEmpty_map, List.isEmpty_map, List.isEmpty_map, List.isEmpty_map]
    exact z
/-! order_of -/
def spOrd : Sp := fun vs H Q _ => ∃ (a b : Option Int), vs = [endV a, endV b] ∧ Q (.int (ordI a b)) H
theorem sc_ord : FnScope ["one", "two"] ["one", "two"] (defScope (top 36)) := ⟨rfl, rfl, rfl, by decide +kernel, rfl, by decide +kernel, by decide +kernel⟩
theorem ok_ord (d : DefAt K "order_of" (top 36)) (G : Gm K mg) (B : Bi mg) : Fn P w K mg base CX0 1 "order_of" ["one", "two"] spOrd := by
  refine d.fn G sc_ord (fun _ _ _ _ _ _ us hl => match us, hl with | [_, _], _ => rfl) (fun vs H Q E h => ?_) (fun f cdv A outer s H vs Q E hr h => ?_)
  · obtain ⟨a, b, rfl, _⟩ := h
    rfl
  · obtain ⟨a, b, rfl, k⟩ := h
    refine ⟨_, pss_cons (ps_if (PW.pt (pw_or (pt_cmp (pc_isN (pv 0))) (pw_or1 (pt_cmp (pc_isN (pv 1)))))) (pss_one (ps_ret (pe_op op_sub (pe_callTy call_int1 (by rfl) B.int (by decide +kernel) (pa_cons (pe_cmp (pc_isN (pv 0))) pa_nil)) (pe_callTy call_int1 (by rfl) B.int (by decide +kernel) (pa_cons (pe_cmp (pc_isN (pv 1))) pa_nil))))) pss_nil)
      (pss_one (ps_ret (pe_op op_sub (pe_callTy call_int1 (by rfl) B.int (by decide +kernel) (pa_cons (pe_cmp (pc_gt (pv 0) (pv 1))) pa_nil)) (pe_callTy call_int1 (by rfl) B.int (by decide +kernel) (pa_cons (pe_cmp (pc_lt (pv 0) (pv 1))) pa_nil))))), ?_⟩
    cases a with
    | none => cases b <;> exact ⟨_, rfl, _, rfl, ifT rfl (ifT rfl ⟨_, rfl, .inr ⟨_, rfl, _, rfl, .inr ⟨_, rfl, _, _, rfl, rfl, k⟩⟩⟩)⟩
    | some a =>
      cases b with
      | none => exact ⟨_, rfl, _, rfl, ifF rfl ⟨_, rfl, _, rfl, ifT rfl ⟨_, rfl, .inr ⟨_, rfl, _, rfl, .inr ⟨_, rfl, _, _, rfl, rfl, k⟩⟩⟩⟩⟩
      | some b => exact ⟨_, rfl, _, rfl, ifF rfl ⟨_, rfl, _, rfl, ifF rfl ⟨_, rfl, _, rfl, _, _, rfl, rfl, .inr ⟨_, rfl, _, rfl, _, rfl, _, _, rfl, rfl, .inr ⟨_, rfl, _, _, rfl, rfl, k⟩⟩⟩⟩⟩
end
end Ms
end

/-! text W11 -/
section
set_option Elab.async false
set_option linter.all false
set_option maxRecDepth 100000
set_option maxHeartbeats 4000000
namespace Ms
open PySem PySem.Spec PyProof.Rows L2
theorem ordI_range (a b : Option Int) : ordI a b = -1 ∨ ordI a b = 0 ∨ ordI a b = 1 := by
  cases a with
  | none => cases b <;> simp [ordI, bI]
  | some i =>
    cases b with
    | none => simp [ordI, bI]
    | some j =>
      unfold ordI bI
      by_cases h1 : j < i
      · have : ¬ i < j := by omega
        simp [h1, this]
      · by_cases h2 : i < j <;> simp [h1, h2]
section
variable {P : Program} {w : World} {K : PySem.W.Frag} {mg : Str → Option Value} {base : Heap} {J : Addr}
/-! apart_by -/
def spApart : Sp := fun vs H Q _ => ∃ (a : Int) (b : Option Int) (c : Int) (d : Option Int), vs = [.int a, endV b, .int c, endV d] ∧ Q (.int (apartI a b c d)) H
theorem sc_apart : FnScope ["a", "b", "c", "d"] ["a", "b", "c", "d"] (defScope (top 37)) := ⟨rfl, rfl, rfl, by decide +kernel, rfl, by decide +kernel, by decide +kernel⟩
theorem ok_apart (d : DefAt K "apart_by" (top 37)) (G : Gm K mg) (F : Fn P w K mg base CX0 1 "order_of" ["one", "two"] spOrd) : Fn P w K mg base CX0 2 "apart_by" ["a", "b", "c", "d"] spApart := by
  refine d.fn G sc_apart (fun _ _ _ _ _ _ us hl => match us, hl with | [_, _, _, _], _ => rfl) (fun vs H Q E h => ?_) (fun f cdv A outer s H vs Q E hr h => ?_)
  · obtain ⟨a, b, c, d, rfl, _⟩ := h
    rfl
  · obtain ⟨a, b, c, d, rfl, k⟩ := h
    refine ⟨_, pss_cons (ps_if (PW.pt (pw_and (pt_cmp (pc_notN (pv 1))) (pw_and1 (pt_cmp (pc_le (pe_fn F hr (pa_cons (pv 1) (pa_cons (pv 2) pa_nil))) pe_int))))) (pss_one (ps_ret (pe_op op_add pe_int (pe_fn F hr (pa_cons (pv 1) (pa_cons (pv 2) pa_nil)))))) pss_nil)
      (pss_cons (ps_if (PW.pt (pw_and (pt_cmp (pc_notN (pv 3))) (pw_and1 (pt_cmp (pc_le (pe_fn F hr (pa_cons (pv 3) (pa_cons (pv 0) pa_nil))) pe_int))))) (pss_one (ps_ret (pe_op op_sub pe_int (pe_fn F hr (pa_cons (pv 3) (pa_cons (pv 0) pa_nil)))))) pss_nil)
      (pss_one (ps_ret pe_int))), ?_⟩
    have two : Q (.int (if (d.isSome && decide (ordI d (some a) ≤ 0)) = true then 12 - ordI d (some a) else 0)) H →
        (tIfS (tAnd (tTest (tNotN (tVar 3))) (tTest (tLe (tCall spOrd [] E0 (tCons (tVar 3) (tCons (tVar 0) tNil))) (tC (V.int 0))))) (tRet (tOp (rI0 fun i j => V.int (i - j)) (tC (V.int 12)) (tCall spOrd [] E0 (tCons (tVar 3) (tCons (tVar 0) tNil))))) tNext)
          { nx := tRet (tC (V.int 0)) { nx := fun x H' => Q V.non H', rt := Q }, rt := Q } [some (V.int a), some (endV b), some (V.int c), some (endV d)] H := fun h => by
      cases d with
      | none => exact ⟨_, rfl, _, rfl, ifF rfl (ifF rfl h)⟩
      | some d =>
        refine ⟨_, rfl, _, rfl, ifT rfl ⟨_, rfl, _, rfl, some d, some a, rfl, _, _, rfl, rfl, _, rfl, ?_⟩⟩
        by_cases cc : ordI (some d) (some a) ≤ 0
        · rw [if_pos (by simp [cc])] at h
          exact ifT (decide_eq_true cc) ⟨_, rfl, _, rfl, some d, some a, rfl, _, _, rfl, rfl, h⟩
        · rw [if_neg (by simp [cc])] at h
          exact ifF (decide_eq_false cc) h
    unfold apartI at k
    cases b with
    | none =>
      rw [if_neg (by simp)] at k
      exact ⟨_, rfl, _, rfl, ifF rfl (ifF rfl (two k))⟩
    | some b =>
      refine ⟨_, rfl, _, rfl, ifT rfl ⟨_, rfl, _, rfl, some b, some c, rfl, _, _, rfl, rfl, _, rfl, ?_⟩⟩
      by_cases cc : ordI (some b) (some c) ≤ 0
      · rw [if_pos (by simp [cc])] at k
        exact ifT (decide_eq_true cc) ⟨_, rfl, _, rfl, some b, some c, rfl, _, _, rfl, rfl, k⟩
      · rw [if_neg (by simp [cc])] at k
        exact ifF (decide_eq_false cc) (two k)
/-! allen -/
def spAllen (J : Addr) : Sp := fun vs H Q _ => ∃ (s t : Addr) (x y : Pc), vs = [.ref s, .ref t] ∧ PcAt H s x ∧ PcAt H t y ∧ ∀ H', Kp J H H' → Q (.int (allenI x y)) H'
theorem sc_allen : FnScope ["one", "two", "a", "b", "c", "d", "apart", "by_begins"] ["one", "two"] (defScope (top 38)) := ⟨rfl, rfl, rfl, by decide +kernel, rfl, by decide +kernel, by decide +kernel⟩
theorem ok_allen (d : DefAt K "allen" (top 38)) (G : Gm K mg) (F1 : Fn P w K mg base CX0 2 "apart_by" ["a", "b", "c", "d"] spApart) (F2 : Fn P w K mg base CX0 1 "order_of" ["one", "two"] spOrd) : Fn P w K mg base CX0 3 "allen" ["one", "two"] (spAllen J) := by
  refine d.fn G sc_allen (fun _ _ _ _ _ _ us hl => match us, hl with | [_, _], _ => rfl) (fun vs H Q E h => ?_) (fun f cdv A outer s H vs Q E hr h => ?_)
  · obtain ⟨a, b, x, y, rfl, _⟩ := h
    rfl
  · obtain ⟨p, q, x, y, rfl, hp, hq, k⟩ := h
    have hr1 := hr.mono (show 1 ≤ 2 by decide)
    refine ⟨_, pss_cons (ps_asg (pv 0) (pg_tup rfl (pgs_cons (pg_name (i := 2) sc_allen.nd rfl (Or.inl rfl)) (pgs_cons (pg_name (i := 3) sc_allen.nd rfl (Or.inl rfl)) pgs_nil))))
      (pss_cons (ps_asg (pv 1) (pg_tup rfl (pgs_cons (pg_name (i := 4) sc_allen.nd rfl (Or.inl rfl)) (pgs_cons (pg_name (i := 5) sc_allen.nd rfl (Or.inl rfl)) pgs_nil))))
      (pss_cons (ps_set (i := 6) sc_allen.nd rfl (Or.inl rfl) (pe_fn F1 hr (pa_cons (pv 2) (pa_cons (pv 3) (pa_cons (pv 4) (pa_cons (pv 5) pa_nil))))))
      (pss_cons (ps_if (pt_cmp (pc_gt (pv 6) pe_int)) (pss_one (ps_ret (pv 6))) pss_nil)
      (pss_cons (ps_set (i := 7) sc_allen.nd rfl (Or.inl rfl) (pe_ix ix_tup (pe_tup (pa_cons (pe_tup (pa_cons pe_int (pa_cons pe_int (pa_cons pe_int pa_nil)))) (pa_cons (pe_tup (pa_cons pe_int (pa_cons pe_int (pa_cons pe_int pa_nil)))) (pa_cons (pe_tup (pa_cons pe_int (pa_cons pe_int (pa_cons pe_int pa_nil)))) pa_nil)))) (pe_op op_add (pe_fn F2 hr1 (pa_cons (pv 2) (pa_cons (pv 4) pa_nil))) pe_int) (fun _ _ => rfl)))
      (pss_one (ps_ret (pe_ix ix_tup (pv 7) (pe_op op_add (pe_fn F2 hr1 (pa_cons (pv 3) (pa_cons (pv 5) pa_nil))) pe_int) (fun _ _ => rfl)))))))), ?_⟩
    refine ⟨_, rfl, p, _, rfl, SqT.of hp, rfl, _, _, rfl, _, _, rfl, rfl, ?_⟩
    refine ⟨_, rfl, q, _, rfl, SqT.of hq, rfl, _, _, rfl, _, _, rfl, rfl, ?_⟩
    refine ⟨_, rfl, _, rfl, _, rfl, _, rfl, x.1, x.2, y.1, y.2, rfl, ?_⟩
    refine ⟨_, rfl, _, _, rfl, rfl, _, rfl, ?_⟩
    unfold allenI at k
    by_cases c : 0 < apartI x.1 x.2 y.1 y.2
    · rw [if_pos c] at k
      exact ifT (decide_eq_true c) ⟨_, rfl, k _ Kp.refl⟩
    · rw [if_neg c] at k
      refine ifF (decide_eq_false c) ?_
      have s3 : 3 ≤ sizeLine := by decide
      refine ⟨s3, fun m1 hm1 => ⟨s3, fun m2 hm2 => ⟨s3, fun m3 hm3 => ⟨s3, fun m hm => ?_⟩⟩⟩⟩
      have k1 : Kp J H (upd H m1 (.tup [.int 3, .int 8, .int 9])) := Kp.new hm1
      have k2 : Kp J _ (upd (upd H m1 (.tup [.int 3, .int 8, .int 9])) m2 (.tup [.int 4, .int 7, .int 10])) := Kp.new hm2
      have k3 : Kp J _ (upd (upd (upd H m1 (.tup [.int 3, .int 8, .int 9])) m2 (.tup [.int 4, .int 7, .int 10])) m3 (.tup [.int 5, .int 6, .int 11])) := Kp.new hm3
      have k4 : Kp J _ (upd (upd (upd (upd H m1 (.tup [.int 3, .int 8, .int 9])) m2 (.tup [.int 4, .int 7, .int 10])) m3 (.tup [.int 5, .int 6, .int 11])) m (.tup [.ref m1, .ref m2, .ref m3])) := Kp.new hm
      have g1 := (k2.trans (k3.trans k4)).tup upd_same
      have g2 := (k3.trans k4).tup upd_same
      have g3 := k4.tup upd_same
      have kz := k _ (k1.trans (k2.trans (k3.trans k4)))
      refine ⟨_, rfl, _, rfl, some x.1, some y.1, rfl, _, _, rfl, rfl, ?_⟩
      have row : ∀ (r : Addr) (v0 v1 v2 : Int), (upd (upd (upd (upd H m1 (.tup [.int 3, .int 8, .int 9])) m2 (.tup [.int 4, .int 7, .int 10])) m3 (.tup [.int 5, .int 6, .int 11])) m (.tup [.ref m1, .ref m2, .ref m3])) r = some (.tup [.int v0, .int v1, .int v2]) →
          Q (.int (([v0, v1, v2] : List Int).getD (ordI x.2 y.2 + 1).toNat 0)) (upd (upd (upd (upd H m1 (.tup [.int 3, .int 8, .int 9])) m2 (.tup [.int 4, .int 7, .int 10])) m3 (.tup [.int 5, .int 6, .int 11])) m (.tup [.ref m1, .ref m2, .ref m3])) →
          tRet (tOp (rIxT K) (tVar 7) (tOp (rI0 fun i j => V.int (i + j)) (tCall spOrd [] E0 (tCons (tVar 3) (tCons (tVar 5) tNil))) (tC (V.int 1)))) { nx := fun _ H' => Q .non H', rt := Q } [some (.ref p), some (.ref q), some (.int x.1), some (endV x.2), some (.int y.1), some (endV y.2), some (.int (apartI x.1 x.2 y.1 y.2)), some (.ref r)] (upd (upd (upd (upd H m1 (.tup [.int 3, .int 8, .int 9])) m2 (.tup [.int 4, .int 7, .int 10])) m3 (.tup [.int 5, .int 6, .int 11])) m (.tup [.ref m1, .ref m2, .ref m3])) := fun r v0 v1 v2 hr h => by
        refine ⟨_, rfl, _, rfl, _, rfl, x.2, y.2, rfl, _, _, rfl, rfl, ?_⟩
        rcases ordI_range x.2 y.2 with e | e | e
        · rw [e] at h ⊢
          exact ⟨r, _, 0, V.int v0, rfl, rfl, SqT.of hr, by exact atI_nat rfl, h⟩
        · rw [e] at h ⊢
          exact ⟨r, _, 1, V.int v1, rfl, rfl, SqT.of hr, by exact atI_nat rfl, h⟩
        · rw [e] at h ⊢
          exact ⟨r, _, 2, V.int v2, rfl, rfl, SqT.of hr, by exact atI_nat rfl, h⟩
      rcases ordI_range (some x.1) (some y.1) with e | e | e
      · rw [e] at kz ⊢
        exact ⟨m, _, 0, V.ref m1, rfl, rfl, SqT.of upd_same, by exact atI_nat rfl, row m1 3 8 9 g1 kz⟩
      · rw [e] at kz ⊢
        exact ⟨m, _, 1, V.ref m2, rfl, rfl, SqT.of upd_same, by exact atI_nat rfl, row m2 4 7 10 g2 kz⟩
      · rw [e] at kz ⊢
        exact ⟨m, _, 2, V.ref m3, rfl, rfl, SqT.of upd_same, by exact atI_nat rfl, row m3 5 6 11 g3 kz⟩
end
end Ms
end

/-! text T1 -/
section
set_option linter.all false
set_option maxRecDepth 100000
namespace Ms
open PySem Vabita
def plainS : Str := " !!!!!!!!!!!!!.!0123456789!!!!!!!!!!!!!!!!!!!!!!!!!!!!!!!!!!!!!!!abcdefghijklmnopqrstuvwxyz"
def digitS : Str := "0123456789"
/-- the sign of a byte -/
def sg (b : Nat) : Nat := if 32 ≤ b then (plainS.cps.toList)[b - 32]?.getD 33 else 33
theorem plain_len : plainS.length = 91 := by decide +kernel
theorem sg_facts : ∀ b, b < 256 → (sg b = 32 ↔ b = 32) ∧ isDigit (sg b) = isDigit b ∧ (isDigit b = true → sg b = b) ∧ (sg b = 46 ↔ b = 46) ∧ (sg b = 110 ↔ b = 110) ∧ (sg b = 101 ↔ b = 101) ∧ (sg b = 118 ↔ b = 118) ∧ (sg b = 114 ↔ b = 114) ∧ (sg b = 97 ↔ b = 97) ∧ (sg b = 108 ↔ b = 108) ∧ (sg b = 119 ↔ b = 119) ∧ (sg b = 121 ↔ b = 121) ∧ (sg b = 115 ↔ b = 115) := by decide +kernel
theorem sg_in {b : Nat} (h1 : 32 ≤ b) (h2 : b < 123) : (plainS.cps.toList)[b - 32]? = some (sg b) := by
  have hl : (plainS.cps.toList).length = 91 := by decide +kernel
  unfold sg
  rw [if_pos h1]
  cases h : (plainS.cps.toList)[b - 32]? with
  | none =>
    rw [List.getElem?_eq_none_iff] at h
    omega
  | some c => rfl
theorem sg_out {b : Nat} (h : ¬ (32 ≤ b ∧ b < 123)) : sg b = 33 := by
  have hl : (plainS.cps.toList).length = 91 := by decide +kernel
  unfold sg
  split
  · rw [List.getElem?_eq_none (by omega)]
    rfl
  · rfl
theorem digit_mem (c : Nat) : decide (c ∈ digitS.cps.toList) = isDigit c := by
  have e : digitS.cps.toList = [48, 49, 50, 51, 52, 53, 54, 55, 56, 57] := by decide +kernel
  rw [e, Bool.eq_iff_iff]
  unfold isDigit
  simp
  omega
/-! numbers -/
theorem fold_ge : ∀ (l : List Nat) (a : Nat), a * 10 ^ l.length ≤ l.foldl (fun n c => 10 * n + (c - 48)) a
  | [], a => by simp
  | c :: r, a => by
    rw [List.foldl_cons, List.length_cons]
    refine Nat.le_trans ?_ (fold_ge r (10 * a + (c - 48)))
    rw [Nat.pow_succ]
    calc a * (10 ^ r.length * 10) = (10 * a) * 10 ^ r.length := by rw [Nat.mul_comm (10 ^ r.length) 10, ← Nat.mul_assoc, Nat.mul_comm a 10]
      _ ≤ _ := Nat.mul_le_mul_right _ (by omega)
theorem value_val (w : List Nat) : NumText.digitsVal w = valueOf w := by
  unfold NumText.digitsVal valueOf
  congr 1
  funext a c
  rw [Nat.mul_comm]
/-- what number_of tests -/
def numOk (w : List Nat) : Bool := decide (1 ≤ w.length) && (decide (w.length ≤ 10) && w.all isDigit)
def numBad (w : List Nat) : Bool := (w.head? == some 48 && !decide (w = [48])) || decide (LAST < valueOf w)
theorem number_eq (w : List Nat) : numberOf w = if numOk w = true then (if numBad w = true then none else some (valueOf w)) else none := by
  unfold numberOf numOk numBad
  cases w with
  | nil => simp
  | cons c r =>
    by_cases hd : (c :: r).all isDigit = true
    · by_cases hl : r.length ≤ 9
      · have e1 : (decide (1 ≤ (c :: r).length) && (decide ((c :: r).length ≤ 10) && (c :: r).all isDigit)) = true := by
          rw [hd]
          simp
          omega
        rw [if_pos e1]
        have e2 : (c :: r).isEmpty = false := rfl
        rw [e2, hd]
        by_cases h0 : c = 48
        · subst h0
          cases r with
          | nil => simp
          | cons d q => simp
        · simp [h0]
      · have e1 : ¬ (decide (1 ≤ (c :: r).length) && (decide ((c :: r).length ≤ 10) && (c :: r).all isDigit)) = true := by
          simp
          intro h
          omega
        rw [if_neg e1]
        have e2 : (c :: r).isEmpty = false := rfl
        rw [e2, hd]
        by_cases h0 : c = 48
        · subst h0
          cases r with
          | nil => simp at hl
          | cons d q => simp
        · have hc : 49 ≤ c := by
            rw [List.all_cons, Bool.and_eq_true] at hd
            have := hd.1
            unfold isDigit at this
            simp at this
            omega
          have hv : LAST < valueOf (c :: r) := by
            unfold valueOf
            rw [List.foldl_cons]
            have h1 := fold_ge r (10 * 0 + (c - 48))
            have h2 : 10 ^ 10 ≤ 10 ^ r.length := Nat.pow_le_pow_right (by decide) (by omega)
            have h3 : 1 * 10 ^ r.length ≤ (10 * 0 + (c - 48)) * 10 ^ r.length := Nat.mul_le_mul_right _ (by omega)
            have h4 : LAST < 10 ^ 10 := by decide
            omega
          rw [if_pos hv]
          simp
    · have e1 : ¬ (decide (1 ≤ (c :: r).length) && (decide ((c :: r).length ≤ 10) && (c :: r).all isDigit)) = true := by
        intro h
        rw [Bool.and_eq_true, Bool.and_eq_true] at h
        exact hd h.2.2
      rw [if_neg e1, if_pos]
      have : (c :: r).all isDigit = false := by simpa using hd
      rw [this]
      simp
theorem number_le {w : List Nat} {n : Nat} (h : numberOf w = some n) : n ≤ LAST ∧ w.all isDigit = true ∧ w ≠ [] := by
  rw [number_eq] at h
  split at h
  · next h1 =>
    split at h
    · cases h
    · next h2 =>
      cases h
      unfold numOk at h1
      rw [Bool.and_eq_true, Bool.and_eq_true] at h1
      refine ⟨?_, h1.2.2, fun z => ?_⟩
      · unfold numBad at h2
        rw [Bool.or_eq_true, not_or] at h2
        have := h2.2
        simp at this
        exact this
      · rw [z] at h1
        simp at h1
  · cases h
/-! words -/
theorem spl_parts : ∀ (l acc : List Nat), TL.spl [32] 0 acc l = (match parts l with | w :: ws => (acc ++ w) :: ws | [] => [acc])
  | [], acc => by simp [TL.spl_nil, parts]
  | c :: r, acc => by
    by_cases h : c = 32
    · subst h
      rw [TL.spl_hit (by simp [TL.pre]), show ([32] : List Nat).length - 1 = 0 from rfl, spl_parts r []]
      simp only [parts]
      rw [if_pos trivial]
      have hp : parts r ≠ [] := by
        cases r with
        | nil => simp [parts]
        | cons d q =>
          simp only [parts]
          split
          · simp
          · split <;> simp
      cases e : parts r with
      | nil => exact absurd e hp
      | cons w ws => simp
    · rw [TL.spl_miss (by simp [TL.pre, h]), spl_parts r (acc ++ [c])]
      simp only [parts]
      rw [if_neg h]
      cases e : parts r with
      | nil => simp
      | cons w ws => simp
theorem parts_ne (r : List Nat) : parts r ≠ [] := by
  cases r with
  | nil => simp [parts]
  | cons d q =>
    simp only [parts]
    split
    · simp
    · split <;> simp
theorem split_parts (l : List Nat) : TL.spl [32] 0 [] l = parts l := by
  rw [spl_parts]
  cases e : parts l with
  | nil => exact absurd e (parts_ne l)
  | cons w ws => rfl
theorem parts_sg : ∀ t : List Nat, (∀ c ∈ t, c < 256) → parts (t.map sg) = (parts t).map (·.map sg)
  | [], _ => rfl
  | c :: r, h => by
    have ih := parts_sg r fun d hd => h d (by simp [hd])
    have f := (sg_facts c (h c (by simp))).1
    rw [List.map_cons]
    simp only [parts]
    by_cases hc : c = 32
    · rw [if_pos (f.mpr hc), if_pos hc, ih]
      rfl
    · rw [if_neg (fun z => hc (f.mp z)), if_neg hc, ih]
      cases e : parts r with
      | nil => rfl
      | cons w ws => rfl
theorem words_sg {t : List Nat} (h : ∀ c ∈ t, c < 256) : Vabita.wordsOf (t.map sg) = (Vabita.wordsOf t).map (·.map sg) := by
  unfold Vabita.wordsOf
  rw [parts_sg t h, List.filter_map]
  congr 1
  apply List.filter_congr
  intro w _
  simp
theorem parts_mem : ∀ {t w : List Nat}, w ∈ parts t → ∀ c ∈ w, c ∈ t
  | [], w, h, c, hc => by
    simp [parts] at h
    subst h
    simp at hc
  | d :: r, w, h, c, hc => by
    simp only [parts] at h
    split at h
    · rcases List.mem_cons.mp h with rfl | h
      · simp at hc
      · exact List.mem_cons_of_mem _ (parts_mem h c hc)
    · split at h
      · next w0 ws e =>
        rcases List.mem_cons.mp h with rfl | h
        · rcases List.mem_cons.mp hc with rfl | hc
          · simp
          · exact List.mem_cons_of_mem _ (parts_mem (w := w0) (by rw [e]; simp) c hc)
        · exact List.mem_cons_of_mem _ (parts_mem (w := w) (by rw [e]; simp [h]) c hc)
      · simp at h
        subst h
        simp at hc
        simp [hc]
theorem words_mem {t w : List Nat} (h : w ∈ Vabita.wordsOf t) : (∀ c ∈ w, c ∈ t) ∧ w ≠ [] := by
  unfold Vabita.wordsOf at h
  rw [List.mem_filter] at h
  refine ⟨parts_mem h.1, fun z => ?_⟩
  rw [z] at h
  simp at h
theorem sg_inj_word {w v : List Nat} (hw : ∀ c ∈ w, c < 256) (hv : ∀ c ∈ v, ∀ b, b < 256 → (sg b = c ↔ b = c)) : w.map sg = v ↔ w = v := by
  induction w generalizing v with
  | nil => cases v <;> simp
  | cons c r ih =>
    cases v with
    | nil => simp
    | cons d q =>
      rw [List.map_cons, List.cons.injEq, List.cons.injEq, ih (fun e he => hw e (by simp [he])) fun e he => hv e (by simp [he]), hv d (by simp) c (hw c (by simp))]
theorem never_sg {w : List Nat} (hw : ∀ c ∈ w, c < 256) : w.map sg = NEVER ↔ w = NEVER := sg_inj_word hw fun c hc b hb => by
  have f := sg_facts b hb
  simp [NEVER] at hc
  rcases hc with rfl | rfl | rfl | rfl | rfl
  · exact f.2.2.2.2.1
  · exact f.2.2.2.2.2.1
  · exact f.2.2.2.2.2.2.1
  · exact f.2.2.2.2.2.1
  · exact f.2.2.2.2.2.2.2.1
theorem always_sg {w : List Nat} (hw : ∀ c ∈ w, c < 256) : w.map sg = ALWAYS ↔ w = ALWAYS := sg_inj_word hw fun c hc b hb => by
  have f := sg_facts b hb
  simp [ALWAYS] at hc
  rcases hc with rfl | rfl | rfl | rfl | rfl | rfl
  · exact f.2.2.2.2.2.2.2.2.1
  · exact f.2.2.2.2.2.2.2.2.2.1
  · exact f.2.2.2.2.2.2.2.2.2.2.1
  · exact f.2.2.2.2.2.2.2.2.1
  · exact f.2.2.2.2.2.2.2.2.2.2.2.1
  · exact f.2.2.2.2.2.2.2.2.2.2.2.2
end Ms
end

/-! text T2 -/
section
set_option linter.all false
set_option maxRecDepth 100000
namespace Ms
open PySem Vabita
theorem par_cut {S : List Nat} (hS : S ≠ []) : ∀ (l acc : List Nat) {x y : List Nat}, TL.par S acc l = some (x, y) → ∃ p, x = acc ++ p ∧ l = p ++ (S ++ y) ∧ ∀ i, i < p.length → TL.pre S (l.drop i) = false
  | [], acc, x, y, h => by simp [TL.par] at h
  | c :: r, acc, x, y, h => by
    cases hp : TL.pre S (c :: r) with
    | true =>
      rw [TL.par_hit hp] at h
      injection h with h
      injection h with h1 h2
      refine ⟨[], by simp [h1], ?_, fun i hi => by simp at hi⟩
      unfold TL.pre at hp
      have e : (c :: r).take S.length = S := by simpa using hp
      rw [List.nil_append, ← h2]
      conv => lhs; rw [← List.take_append_drop S.length (c :: r), e]
    | false =>
      rw [TL.par_miss hp] at h
      obtain ⟨p, h1, h2, h3⟩ := par_cut hS r (acc ++ [c]) h
      refine ⟨c :: p, by rw [h1]; simp, by rw [h2]; simp, fun i hi => ?_⟩
      cases i with
      | zero => exact hp
      | succ i => exact h3 i (by simpa using hi)
theorem par_miss_all {S : List Nat} (hS : S ≠ []) : ∀ (l acc : List Nat), TL.par S acc l = none → ∀ i, TL.pre S (l.drop i) = false
  | [], acc, h, i => by rw [List.drop_nil]; exact TL.pre_nil hS
  | c :: r, acc, h, i => by
    cases hp : TL.pre S (c :: r) with
    | true => rw [TL.par_hit hp] at h; cases h
    | false =>
      rw [TL.par_miss hp] at h
      cases i with
      | zero => exact hp
      | succ i => exact par_miss_all hS r _ h i
/-- what piece_of tells -/
def pieceT (w : List Nat) : Option Piece := match TL.par [46, 46] [] w with
  | none => (numberOf w).map fun a => (a, some (a + 1))
  | some (f, s) => match numberOf f with
    | none => none
    | some a => if s = [] then some (a, none) else match numberOf s with
      | none => none
      | some b => if b ≤ a then none else some (a, some b)
theorem tw_all {w : List Nat} (h : w.all isDigit = true) : w.takeWhile isDigit = w ∧ w.dropWhile isDigit = [] := by
  induction w with
  | nil => exact ⟨rfl, rfl⟩
  | cons c r ih =>
    rw [List.all_cons, Bool.and_eq_true] at h
    obtain ⟨i1, i2⟩ := ih h.2
    rw [List.takeWhile_cons, List.dropWhile_cons, if_pos h.1, if_pos h.1, i1, i2]
    exact ⟨rfl, rfl⟩
theorem tw_app {f r : List Nat} (h : f.all isDigit = true) (hr : r.head?.all (fun c => !isDigit c) = true) : (f ++ r).takeWhile isDigit = f ∧ (f ++ r).dropWhile isDigit = r := by
  induction f with
  | nil =>
    cases r with
    | nil => exact ⟨rfl, rfl⟩
    | cons c q =>
      have : isDigit c = false := by simpa using hr
      simp [this]
  | cons c q ih =>
    rw [List.all_cons, Bool.and_eq_true] at h
    obtain ⟨i1, i2⟩ := ih h.2
    rw [List.cons_append, List.takeWhile_cons, List.dropWhile_cons, if_pos h.1, if_pos h.1, i1, i2]
    exact ⟨rfl, rfl⟩
theorem drop_tw (w : List Nat) : w.dropWhile isDigit = w.drop (w.takeWhile isDigit).length := by
  induction w with
  | nil => rfl
  | cons c r ih =>
    rw [List.dropWhile_cons, List.takeWhile_cons]
    cases h : isDigit c with
    | true => simp [ih]
    | false => simp
theorem all_tw {w : List Nat} : (w.dropWhile isDigit = []) → w.all isDigit = true := by
  induction w with
  | nil => intro _; rfl
  | cons c r ih =>
    intro h
    rw [List.dropWhile_cons] at h
    cases hc : isDigit c with
    | true =>
      rw [hc, if_pos rfl] at h
      rw [List.all_cons, hc, ih h]
      rfl
    | false =>
      rw [hc, if_neg Bool.false_ne_true] at h
      cases h
theorem number_all {w : List Nat} (h : w.all isDigit = false) : numberOf w = none := by
  cases e : numberOf w with
  | none => rfl
  | some n => rw [(number_le e).2.1] at h; cases h
theorem piece_par (w : List Nat) : pieceT w = pieceOf w := by
  have dd : isDigit 46 = false := by decide
  unfold pieceT pieceOf
  simp only
  cases hp : TL.par [46, 46] [] w with
  | none =>
    simp only
    have hm := par_miss_all (by simp) w [] hp
    cases ha : w.all isDigit with
    | true =>
      obtain ⟨h1, h2⟩ := tw_all ha
      rw [h1, h2]
      cases numberOf w with
      | none => rfl
      | some a => simp
    | false =>
      rw [number_all ha]
      cases numberOf (w.takeWhile isDigit) with
      | none => rfl
      | some a =>
        have hr : w.dropWhile isDigit ≠ [] := fun z => by rw [all_tw z] at ha; cases ha
        have h2 := hm (w.takeWhile isDigit).length
        rw [← drop_tw] at h2
        unfold TL.pre at h2
        have h3 : (w.dropWhile isDigit).take 2 ≠ [46, 46] := by simpa using h2
        have h4 : w.dropWhile isDigit ≠ [46, 46] := fun z => h3 (by rw [z]; rfl)
        simp [hr, h3, h4]
  | some q =>
    obtain ⟨f, s⟩ := q
    simp only
    obtain ⟨p, e1, e2, e3⟩ := par_cut (by simp) w [] hp
    rw [List.nil_append] at e1
    subst e1
    cases ha : f.all isDigit with
    | true =>
      obtain ⟨h1, h2⟩ := tw_app (f := f) (r := [46, 46] ++ s) ha (by simp [dd])
      rw [e2, h1, h2]
      cases numberOf f with
      | none => rfl
      | some a =>
        cases s with
        | nil => simp
        | cons c r =>
          simp
          cases numberOf (c :: r) with
          | none => rfl
          | some b =>
            simp only
            by_cases hb : b ≤ a
            · rw [if_pos hb, if_neg (by omega)]
            · rw [if_neg hb, if_pos (by omega)]
    | false =>
      rw [number_all ha]
      have hlt : (w.takeWhile isDigit).length < f.length := by
        rw [e2]
        clear e2 e3 hp
        induction f with
        | nil => cases ha
        | cons c r ih =>
          rw [List.all_cons] at ha
          rw [List.cons_append, List.takeWhile_cons]
          cases hc : isDigit c with
          | true =>
            rw [hc, Bool.true_and] at ha
            simpa using ih ha
          | false => simp
      cases numberOf (w.takeWhile isDigit) with
      | none => rfl
      | some a =>
        have h2 := e3 _ hlt
        rw [← drop_tw] at h2
        unfold TL.pre at h2
        have h3 : (w.dropWhile isDigit).take 2 ≠ [46, 46] := by simpa using h2
        have h4 : w.dropWhile isDigit ≠ [46, 46] := fun z => h3 (by rw [z]; rfl)
        have hr : w.dropWhile isDigit ≠ [] := fun z => by
          have h5 := drop_tw w
          rw [z] at h5
          have h6 := congrArg List.length h5
          rw [List.length_drop, e2] at h6
          simp at h6
          rw [e2] at hlt
          simp at hlt
          omega
        simp [hr, h3, h4]
/-- signs of bytes tell the same number and piece -/
theorem number_sg {w : List Nat} (h : ∀ c ∈ w, c < 256) : numberOf (w.map sg) = numberOf w := by
  cases ha : w.all isDigit with
  | true =>
    have e : w.map sg = w := by
      clear h
      induction w with
      | nil => rfl
      | cons c r ih =>
        rw [List.all_cons, Bool.and_eq_true] at ha
        have hc : c < 256 := by
          have := ha.1
          unfold isDigit at this
          simp at this
          omega
        rw [List.map_cons, ih ha.2, (sg_facts c hc).2.2.1 ha.1]
    rw [e]
  | false =>
    have hb : (w.map sg).all isDigit = false := by
      rw [← ha]
      clear ha
      induction w with
      | nil => rfl
      | cons c r ih =>
        rw [List.map_cons, List.all_cons, List.all_cons, ih fun d hd => h d (by simp [hd]), (sg_facts c (h c (by simp))).2.1]
    rw [number_all ha, number_all hb]
theorem piece_sg {w : List Nat} (h : ∀ c ∈ w, c < 256) : pieceOf (w.map sg) = pieceOf w := by
  have t1 : (w.map sg).takeWhile isDigit = (w.takeWhile isDigit).map sg ∧ (w.map sg).dropWhile isDigit = (w.dropWhile isDigit).map sg := by
    induction w with
    | nil => exact ⟨rfl, rfl⟩
    | cons c r ih =>
      obtain ⟨i1, i2⟩ := ih fun d hd => h d (by simp [hd])
      have f := (sg_facts c (h c (by simp))).2.1
      rw [List.map_cons, List.takeWhile_cons, List.takeWhile_cons, List.dropWhile_cons, List.dropWhile_cons, f]
      cases isDigit c with
      | true => simp [i1, i2]
      | false => simp
  have hsub1 : ∀ c ∈ w.takeWhile isDigit, c < 256 := fun c hc => h c ((List.takeWhile_sublist _).subset hc)
  have hsub2 : ∀ c ∈ w.dropWhile isDigit, c < 256 := fun c hc => h c ((List.dropWhile_sublist _).subset hc)
  unfold pieceOf
  simp only
  rw [t1.1, t1.2, number_sg hsub1]
  cases numberOf (w.takeWhile isDigit) with
  | none => rfl
  | some a =>
    simp only
    have dots : ∀ v : List Nat, (∀ c ∈ v, c < 256) → (v.map sg = [46, 46] ↔ v = [46, 46]) := fun v hv => sg_inj_word hv fun c hc b hb => by
      simp at hc
      subst hc
      exact (sg_facts b hb).2.2.2.1
    have e1 : ((w.dropWhile isDigit).map sg = []) ↔ (w.dropWhile isDigit = []) := by simp
    have e2 := dots _ hsub2
    have e3 : ((w.dropWhile isDigit).map sg).take 2 = [46, 46] ↔ (w.dropWhile isDigit).take 2 = [46, 46] := by
      rw [← List.map_take]
      exact dots _ fun c hc => hsub2 c (List.mem_of_mem_take hc)
    have e4 : numberOf (((w.dropWhile isDigit).map sg).drop 2) = numberOf ((w.dropWhile isDigit).drop 2) := by
      rw [← List.map_drop]
      exact number_sg fun c hc => hsub2 c (List.mem_of_mem_drop hc)
    simp only [e1, e2, e3, e4]
end Ms
end

/-! text V1 -/
section
set_option Elab.async false
set_option linter.all false
set_option maxRecDepth 100000
set_option maxHeartbeats 4000000
namespace Ms
open PySem PySem.Spec PyProof.Rows L2
/-- NoText -/
structure NtF (K : PySem.W.Frag) (mg : Str → Option Value) (NT : Addr) : Prop where
  g : mg "NoText" = some (.ref NT)
  q : PySem.W.excIn K NT [.type "ValueError", .type "Exception", .type "BaseException", .type "object"] "ValueError.__new__" = true
  k : PySem.W.keepIn K (.ref NT) = true
  s : PySem.W.subIn K (.ref NT) (.type "BaseException") = some true
  t : PySem.W.typeIn K (.ref NT) = some (.type "type")
  y : PySem.W.exmOne K (.ref NT) (.ref NT) = some true
section
variable {P : Program} {w : World} {K : PySem.W.Frag} {mg : Str → Option Value} {base : Heap} {J NT : Addr}
theorem DefAt.fnG {CX : CXT} {x : Str} {st : Stmt} {N ps : List Str} {k : Nat} {sp : Sp} (d : DefAt K x st) (G : Gm K mg) (S : FnScope N ps (defScope st))
    (hb : ∀ (kV doc pm : Value) (an : Option Addr) (cdv ct : Value) (us : List Value), us.length = ps.length → bindArgs (PySem.W.fnOf x x (defArgs st) (defBody st) (defScope st) .none kV doc pm an cdv ct) ⟨us, []⟩ = pure (ps.zip us))
    (len : ∀ vs H Q E, sp vs H Q E → vs.length = ps.length)
    (hbody : ∀ (f : Addr) (cdv : Value) (A : Around) (outer : List Env) (s : Shared) (H : Hp) (vs : List V) (Q : VK) (E : XK), Room k (A.deeper (envOfC x (defScope st) s.heap.objs.size f cdv)) → sp vs H Q E →
      ∃ t, PSs (cxOf CX P w K mg base N x (defScope st) f cdv A outer s H E) (defBody st) t ∧ t { nx := fun _ H' => Q .non H', rt := Q } (start N vs) H) : Fn P w K mg base CX (k + 1) x ps sp := by
  obtain ⟨f, od, an, sl, oc, kV, dc, pm, cd, ct, a, l, c, kk⟩ := d
  have F := fun_mk (st := st) l c kk
  exact ⟨f, _, G _ _ a, kk, F.binds hb, fn_of l c S len fun A outer s H vs Q E hr hsp => hbody f cd A outer s H vs Q E hr hsp⟩
/-! sign_of -/
def spSign : Sp := fun vs H Q _ => ∃ b : Nat, vs = [.int (b : Int)] ∧ Q (.str ⟨#[sg b]⟩) H
theorem sc_sign : FnScope ["byte"] ["byte"] (defScope (top 47)) := ⟨rfl, rfl, rfl, by decide +kernel, rfl, by decide +kernel, by decide +kernel⟩
theorem ok_sign (d : DefAt K "sign_of" (top 47)) (G : Gm K mg) (B : Bi mg) (g1 : GC mg "FIRST_SIGN" (.int 32)) (g2 : GC mg "PLAIN" (.str plainS)) : Fn P w K mg base CX0 1 "sign_of" ["byte"] spSign := by
  refine d.fn G sc_sign (fun _ _ _ _ _ _ us hl => match us, hl with | [_], _ => rfl) (fun vs H Q E h => ?_) (fun f cdv A outer s H vs Q E hr h => ?_)
  · obtain ⟨b, rfl, _⟩ := h
    rfl
  · obtain ⟨b, rfl, k⟩ := h
    refine ⟨_, pss_cons (ps_if (pt_chain op_le op_lt (pe_gcv rfl g1) (pv 0) (pe_op op_add (pe_gcv rfl g1) (pe_callB call_len_str (by rfl) B.len PySem.boot_len (pa_cons (pe_gcv rfl g2) pa_nil)))) (pss_one (ps_ret (pe_ix ix_str (pe_gcv rfl g2) (pe_op op_sub (pv 0) (pe_gcv rfl g1)) (fun _ _ => rfl)))) pss_nil)
      (pss_one (ps_ret pe_str)), ?_⟩
    have pl : plainS.length ≤ sizeLine := by rw [plain_len]; decide
    refine ⟨_, rfl, _, _, rfl, rfl, _, rfl, ?_⟩
    by_cases c1 : 32 ≤ b
    · refine ifT (decide_eq_true (by omega)) ⟨plainS, rfl, pl, _, _, rfl, rfl, _, _, rfl, rfl, _, rfl, ?_⟩
      rw [plain_len]
      by_cases c2 : b < 123
      · refine ifT (decide_eq_true (by omega)) ⟨_, rfl, _, _, rfl, rfl, plainS, _, sg b, rfl, rfl, pl, ?_, k⟩
        have e : ((b : Int) - 32) = ((b - 32 : Nat) : Int) := by omega
        rw [e]
        exact atI_nat (sg_in c1 c2)
      · refine ifF (decide_eq_false (by omega)) ?_
        rw [sg_out (by omega)] at k
        exact k
    · refine ifF (decide_eq_false (by omega)) (_root_.id ?_)
      rw [sg_out (by omega)] at k
      exact ⟨_, rfl, ifF rfl k⟩
/-! number_of -/
def isDg (c : Nat) : Bool := Vabita.isDigit c
def spNum (J NT : Addr) : Sp := fun vs H Q E => ∃ z : Str, vs = [.str z] ∧ z.length ≤ 3000 ∧ Tab J H ∧ ∀ H', Kp J H H' → Tab J H' → (match Vabita.numberOf (TL.tl z) with
  | some n => Q (.int (n : Int)) H'
  | none => E (.ref NT) none H')
theorem sc_num : FnScope ["word", "sign"] ["word"] (defScope (top 48)) := ⟨rfl, rfl, rfl, by decide +kernel, rfl, by decide +kernel, by decide +kernel⟩
theorem ok_num (d : DefAt K "number_of" (top 48)) (G : Gm K mg) (B : Bi mg) (N : NtF K mg NT) (g1 : GC mg "MOST_DIGITS" (.int 10)) (g2 : GC mg "DIGITS" (.str digitS)) (g3 : GC mg "MOST" (.int 1000000000)) : Fn P w K mg base (L2N.CX P w) 1 "number_of" ["word"] (spNum J NT) := by
  refine d.fnG G sc_num (fun _ _ _ _ _ _ us hl => match us, hl with | [_], _ => rfl) (fun vs H Q E h => ?_) (fun f cdv A outer s H vs Q E hr h => ?_)
  · obtain ⟨b, rfl, _⟩ := h
    rfl
  · obtain ⟨z, rfl, hl, tb, k⟩ := h
    have tk : L2N.Takes (cxOf (L2N.CX P w) P w K mg base ["word", "sign"] "number_of" (defScope (top 48)) f cdv A outer s H E) (fun cls d _ H => E cls d H) := L2N.takes_of rfl rfl rfl rfl
    refine ⟨_, pss_cons (ps_if (PW.pt (pw_or (pt_not (pt_chain op_le op_le pe_int (pe_callB call_len_str (by rfl) B.len PySem.boot_len (pa_cons (pv 0) pa_nil)) (pe_gcv rfl g1))) (pw_or1 (pt_not (pt_val (pe_callB (cr_all rfl) (by rfl) B.all (by decide +kernel) (pa_cons
        (pe_lc (own := [("sign", 1)]) (g := gName 1) rfl sc_num.nd (pi_str (pv 0)) (blkOk_by (N := ["word", "sign"]) (sc := defScope (top 48)) (by decide +kernel)) (fun _ _ _ _ _ => pg_name (i := 1) sc_num.nd rfl (Or.inl rfl)) (fun _ _ _ _ _ => pts_nil) (fun _ _ _ _ _ => pe_cmpR op_in_sign (pv 1) (pe_gcv rfl g2) (by rfl))) pa_nil)))))))
        (pss_one (L2N.ps_raise rfl tk (L2N.pmk_own PySem.F.excBase_ValueError N.q N.g N.k (raises_own N.s N.t) (by exact rfl)))) pss_nil)
      (pss_cons (ps_if (PW.pt (pw_or (PW.pt (pw_and (pt_cmpR op_eq (pe_ix ix_str (pv 0) pe_int (fun _ _ => rfl)) pe_str (nomark _)) (pw_and1 (pt_cmpR op_ne (pv 0) pe_str (nomark _))))) (pw_or1 (pt_cmp (pc_gt (pe_callTy call_int_str (by rfl) B.int (by decide +kernel) (pa_cons (pv 0) pa_nil)) (pe_gcv rfl g3))))))
        (pss_one (L2N.ps_raise rfl tk (L2N.pmk_own PySem.F.excBase_ValueError N.q N.g N.k (raises_own N.s N.t) (by exact rfl)))) pss_nil)
      (pss_one (ps_ret (pe_callTy call_int_str (by rfl) B.int (by decide +kernel) (pa_cons (pv 0) pa_nil))))), ?_⟩
    have hz : z.length = (TL.tl z).length := TL.len_tl z
    have zl : z.length ≤ sizeLine := Nat.le_trans hl (by decide)
    rw [number_eq] at k
    have bad : numOk (TL.tl z) = false → ∀ H', Kp J H H' → Tab J H' → E (.ref NT) none H' := fun hb H' k1 t1 => by
      have := k H' k1 t1
      rw [if_neg (by rw [hb]; exact Bool.false_ne_true)] at this
      exact this
    refine ⟨_, rfl, z, rfl, zl, _, _, rfl, rfl, _, rfl, ?_⟩
    by_cases c1 : 1 ≤ z.length
    · refine ifT (decide_eq_true (by omega)) ⟨_, _, rfl, rfl, _, rfl, ?_⟩
      by_cases c2 : z.length ≤ 10
      · refine ifF (by rw [Bool.not_eq_false']; exact decide_eq_true (by omega)) ?_
        refine ⟨_, rfl, z, rfl, fun D hD => lc_it walk_str (LcP J H D fun i acc _ => acc = (((TL.tl z).take i).map isDg).map V.bl) (LcP.start hD tb rfl) (fun i H' _ p => trivial) (fun i x H' H2 hi p y => ?_) (fun H' p => ?_)⟩
        · obtain ⟨rfl, c, hc, rfl⟩ := y
          obtain ⟨acc, h1, rfl⟩ := p.at_
          have hc' : (TL.tl z)[i]? = some c := by rw [← Array.getElem?_toList] at hc; exact hc
          refine ⟨rfl, _, rfl, c, digitS, rfl, rfl, p.app Kp.refl h1 ?_ ?_⟩
          · rw [List.length_map, List.length_map, List.length_take]
            exact small (by omega)
          · rw [take_snoc hc', List.map_append, List.map_append, digit_mem]
            rfl
        · obtain ⟨acc, h1, rfl⟩ := p.at_
          refine ⟨D, _, rfl, SqL.of h1, _, rfl, ?_⟩
          have hall : ((((TL.tl z).take z.cps.size).map isDg).all _root_.id) = (TL.tl z).all Vabita.isDigit := by
            rw [List.take_of_length_le (by simp), List.all_map]
            rfl
          have hok : numOk (TL.tl z) = (TL.tl z).all Vabita.isDigit := by
            unfold numOk
            rw [← hz]
            simp [c1, c2]
          cases ca : (TL.tl z).all Vabita.isDigit with
          | false =>
            refine ifT (by rw [hall, ca]; rfl) ?_
            exact bad (hok.trans ca) _ p.kp p.tab
          | true =>
            refine ifF (by rw [hall, ca]; rfl) ?_
            have kk := k _ p.kp p.tab
            rw [if_pos (hok.trans ca)] at kk
            have hne : TL.tl z ≠ [] := fun e => by rw [e] at hz; simp at hz; omega
            have hdg : NumText.AllDigits (TL.tl z) := fun c hc => by
              have := List.all_eq_true.mp ca c hc
              unfold Vabita.isDigit at this
              simpa using this
            have hint : PySem.intText? z = some ((Vabita.valueOf (TL.tl z) : Nat) : Int) := by
              have e := PySem.intText_digits (x := z) hdg hne (by omega)
              rw [value_val] at e
              exact e
            obtain ⟨c, r, ez⟩ : ∃ c r, TL.tl z = c :: r := by
              cases e : TL.tl z with
              | nil => exact absurd e hne
              | cons c r => exact ⟨c, r, rfl⟩
            have hb : numBad (TL.tl z) = ((c == 48 && !decide (z = "0")) || decide ((1000000000 : Int) < ((Vabita.valueOf (TL.tl z) : Nat) : Int))) := by
              unfold numBad
              have e1 : ((TL.tl z).head? == some 48) = (c == 48) := by rw [ez]; rfl
              have e2 : decide (TL.tl z = [48]) = decide (z = "0") := by
                rw [decide_eq_decide]
                exact ⟨fun h => TL.ext_tl (h.trans (by decide +kernel)), fun h => by rw [h]; decide +kernel⟩
              have e3 : decide (Vabita.LAST < Vabita.valueOf (TL.tl z)) = decide ((1000000000 : Int) < ((Vabita.valueOf (TL.tl z) : Nat) : Int)) := by
                rw [decide_eq_decide]
                unfold Vabita.LAST
                omega
              rw [e1, e2, e3]
            have l640 : z.length ≤ 640 := by omega
            refine ⟨_, rfl, z, 0, c, rfl, rfl, zl, by rw [show z.cps.toList = c :: r from ez]; exact atI_nat (j := 0) rfl, rfl, _, rfl, ?_⟩
            have gt : ∀ (σ : L2.St), True := fun _ => trivial
            have dc : decide (V.str ⟨#[c]⟩ = V.str "0") = (c == 48) := by
              rw [dec_str, Bool.eq_iff_iff, beq_iff_eq, beq_iff_eq]
              constructor
              · intro h
                have := congrArg (fun s : Str => s.cps.toList) h
                have e0 : (Str.ofString "0").cps.toList = [48] := by decide +kernel
                have h2 : [c] = (Str.ofString "0").cps.toList := this
                rw [e0] at h2
                simpa using h2
              · rintro rfl
                exact TL.ext_tl (by decide +kernel)
            rw [hb] at kk
            have dz : (!decide (V.str z = V.str "0")) = !decide (z = "0") := by
              rw [dec_str]
              congr 1
            cases d1 : (c == 48) with
            | false =>
              rw [d1, Bool.false_and, Bool.false_or] at kk
              refine ifF (dc.trans d1) (ifF rfl ⟨_, rfl, z, _, rfl, hint, l640, _, _, rfl, rfl, _, rfl, ?_⟩)
              by_cases cv : (1000000000 : Int) < ((Vabita.valueOf (TL.tl z) : Nat) : Int)
              · rw [if_pos (decide_eq_true cv)] at kk
                exact ifT (decide_eq_true cv) kk
              · rw [if_neg (by rw [decide_eq_false cv]; exact Bool.false_ne_true)] at kk
                exact ifF (decide_eq_false cv) ⟨_, rfl, z, _, rfl, hint, l640, kk⟩
            | true =>
              rw [d1, Bool.true_and] at kk
              refine ifT (dc.trans d1) ⟨_, rfl, rfl, _, rfl, ?_⟩
              cases d2 : (!decide (z = "0")) with
              | true =>
                rw [d2, Bool.true_or, if_pos rfl] at kk
                exact ifT (dz.trans d2) (ifT rfl kk)
              | false =>
                rw [d2, Bool.false_or] at kk
                refine ifF (dz.trans d2) ⟨_, rfl, z, _, rfl, hint, l640, _, _, rfl, rfl, _, rfl, ?_⟩
                by_cases cv : (1000000000 : Int) < ((Vabita.valueOf (TL.tl z) : Nat) : Int)
                · rw [if_pos (decide_eq_true cv)] at kk
                  exact ifT (decide_eq_true cv) kk
                · rw [if_neg (by rw [decide_eq_false cv]; exact Bool.false_ne_true)] at kk
                  exact ifF (decide_eq_false cv) ⟨_, rfl, z, _, rfl, hint, l640, kk⟩
      · refine ifT (by rw [Bool.not_eq_true']; exact decide_eq_false (by omega)) ?_
        exact bad (by unfold numOk; rw [← hz]; simp [c2]) _ Kp.refl tb
    · refine ifF (decide_eq_false (by omega)) (_root_.id ?_)
      refine ⟨_, rfl, ifT rfl ?_⟩
      exact bad (by unfold numOk; rw [← hz]; simp [c1]) _ Kp.refl tb
end
end Ms
end

/-! text V2 -/
section
set_option Elab.async false
set_option linter.all false
set_option maxRecDepth 100000
set_option maxHeartbeats 4000000
namespace Ms
open PySem PySem.Spec PyProof.Rows L2
def castP (x : Vabita.Piece) : Pc := ((x.1 : Int), x.2.map fun n => (n : Int))
section
variable {P : Program} {w : World} {K : PySem.W.Frag} {mg : Str → Option Value} {base : Heap} {J NT : Addr}
/-! piece_of -/
def spPce (J NT : Addr) : Sp := fun vs H Q E => ∃ z : Str, vs = [.str z] ∧ z.length ≤ 3000 ∧ Tab J H ∧ ∀ H', Kp J H H' → Tab J H' → (match pieceT (TL.tl z) with
  | some x => ∀ p, PcAt H' p (castP x) → Q (.ref p) H'
  | none => E (.ref NT) none H')
theorem sc_pce : FnScope ["word", "first", "points", "second", "begin"] ["word"] (defScope (top 49)) := ⟨rfl, rfl, rfl, by decide +kernel, rfl, by decide +kernel, by decide +kernel⟩
theorem ok_pce (d : DefAt K "piece_of" (top 49)) (G : Gm K mg) (N : NtF K mg NT) (F : Fn P w K mg base (L2N.CX P w) 1 "number_of" ["word"] (spNum J NT)) : Fn P w K mg base (L2N.CX P w) 2 "piece_of" ["word"] (spPce J NT) := by
  refine d.fnG G sc_pce (fun _ _ _ _ _ _ us hl => match us, hl with | [_], _ => rfl) (fun vs H Q E h => ?_) (fun f cdv A outer s H vs Q E hr h => ?_)
  · obtain ⟨b, rfl, _⟩ := h
    rfl
  · obtain ⟨z, rfl, hl, tb, k⟩ := h
    have tk : L2N.Takes (cxOf (L2N.CX P w) P w K mg base ["word", "first", "points", "second", "begin"] "piece_of" (defScope (top 49)) f cdv A outer s H E) (fun cls d _ H => E cls d H) := L2N.takes_of rfl rfl rfl rfl
    have px : Passes (L2N.CX P w) (cxOf (L2N.CX P w) P w K mg base ["word", "first", "points", "second", "begin"] "piece_of" (defScope (top 49)) f cdv A outer s H E) E := L2N.passes_call tk (fun _ _ _ _ h => h)
    refine ⟨_, pss_cons (ps_asg (pe_partition (pv 0) pe_str) (pg_tup rfl (pgs_cons (pg_name (i := 1) sc_pce.nd rfl (Or.inl rfl)) (pgs_cons (pg_name (i := 2) sc_pce.nd rfl (Or.inl rfl)) (pgs_cons (pg_name (i := 3) sc_pce.nd rfl (Or.inl rfl)) pgs_nil)))))
      (pss_cons (ps_set (i := 4) sc_pce.nd rfl (Or.inl rfl) (pe_fnX F hr px (pa_cons (pv 1) pa_nil)))
      (pss_cons (ps_if (pt_cmpR op_eq (pv 2) pe_str (nomark _)) (pss_one (ps_ret (pe_tup (pa_cons (pv 4) (pa_cons (pe_op op_add (pv 4) pe_int) pa_nil))))) pss_nil)
      (pss_cons (ps_if (pt_cmpR op_eq (pv 3) pe_str (nomark _)) (pss_one (ps_ret (pe_tup (pa_cons (pv 4) (pa_cons pe_non pa_nil))))) pss_nil)
      (pss_cons (ps_if (pt_cmp (pc_le (pe_fnX F hr px (pa_cons (pv 3) pa_nil)) (pv 4))) (pss_one (L2N.ps_raise rfl tk (L2N.pmk_own PySem.F.excBase_ValueError N.q N.g N.k (raises_own N.s N.t) (by exact rfl)))) pss_nil)
      (pss_one (ps_ret (pe_tup (pa_cons (pv 4) (pa_cons (pe_fnX F hr px (pa_cons (pv 3) pa_nil)) pa_nil))))))))), ?_⟩
    have zl : z.length ≤ sizeLine := Nat.le_trans hl (by decide)
    have s2 : 2 ≤ sizeLine := by decide
    have td : TL.tl (Str.ofString "..") = [46, 46] := by decide +kernel
    obtain ⟨f1, f2, f3⟩ := PyProof.Rows.fact_partition z (Str.ofString "..")
    have hpar := TL.partition_par z (Str.ofString "..") (by rw [td]; simp)
    rw [td] at hpar
    refine ⟨_, rfl, ⟨_, rfl⟩, z, _, rfl, rfl, by decide +kernel, zl, fun p hp => ?_⟩
    have k0 : Kp J H (upd H p (.tup [.str (Txt.partition z (Str.ofString "..")).1, .str (Txt.partition z (Str.ofString "..")).2.1, .str (Txt.partition z (Str.ofString "..")).2.2])) := Kp.new hp
    refine ⟨p, _, rfl, SqT.of upd_same, rfl, _, _, rfl, _, _, rfl, _, _, rfl, rfl, ?_⟩
    have go : ∀ r, pieceT (TL.tl z) = r → ∀ H' {o : HO}, Kp J (upd H p o) H' → Kp J H (upd H p o) → Tab J H' → (match r with | some x => ∀ p, PcAt H' p (castP x) → Q (.ref p) H' | none => E (.ref NT) none H') := fun r e H' o k' k0 t' => by
      rw [← e]
      exact k H' (k0.trans k') t'
    cases ep : TL.par [46, 46] [] (TL.tl z) with
    | none =>
      rw [ep] at hpar
      simp only at hpar
      rw [hpar] at k0 ⊢
      refine ⟨_, rfl, z, rfl, hl, k0.tab tb, fun H1 k1 t1 => ?_⟩
      cases en : Vabita.numberOf (TL.tl z) with
      | none => exact go none (by simp [pieceT, ep, en]) _ k1 k0 t1
      | some n =>
        refine ⟨_, rfl, rfl, _, rfl, ifT (decide_eq_true (congrArg V.str (TL.ext_tl (show TL.tl Str.empty = TL.tl (Str.ofString "") by decide +kernel)))) ⟨_, rfl, _, rfl, _, _, rfl, rfl, s2, fun q hq => ?_⟩⟩
        exact go (some (n, some (n + 1))) (by simp [pieceT, ep, en]) _ (k1.trans (Kp.new hq)) k0 (tab_new t1 hq) q upd_same
    | some q =>
      obtain ⟨fi, se⟩ := q
      rw [ep] at hpar
      simp only at hpar
      rw [hpar] at f1 f3 k0 ⊢
      simp only at f1 f3
      refine ⟨_, rfl, _, rfl, Nat.le_trans f1 hl, k0.tab tb, fun H1 k1 t1 => ?_⟩
      rw [TL.tl_mk]
      cases en : Vabita.numberOf fi with
      | none => exact go none (by simp [pieceT, ep, en]) _ k1 k0 t1
      | some n =>
        refine ⟨_, rfl, rfl, _, rfl, ifF (by rw [dec_str]; show (Str.ofString ".." == Str.ofString "") = false; decide +kernel) ⟨_, rfl, rfl, _, rfl, ?_⟩⟩
        have es : decide (V.str ⟨se.toArray⟩ = V.str (Str.ofString "")) = decide (se = []) := by
          rw [dec_str, Bool.eq_iff_iff, beq_iff_eq, decide_eq_true_iff]
          constructor
          · intro h
            have := congrArg (fun s : Str => s.cps.toList) h
            exact this
          · rintro rfl
            exact TL.ext_tl (by decide +kernel)
        by_cases hse : se = []
        · refine ifT (es.trans (decide_eq_true hse)) ⟨_, rfl, s2, fun q hq => ?_⟩
          exact go (some (n, none)) (by simp [pieceT, ep, en, hse]) _ (k1.trans (Kp.new hq)) k0 (tab_new t1 hq) q upd_same
        · refine ifF (es.trans (decide_eq_false hse)) ⟨_, rfl, _, rfl, Nat.le_trans f3 hl, t1, fun H2 k2 t2 => ?_⟩
          rw [TL.tl_mk]
          cases em : Vabita.numberOf se with
          | none => exact go none (by simp [pieceT, ep, en, em, hse]) _ (k1.trans k2) k0 t2
          | some m =>
            refine ⟨_, rfl, _, _, rfl, rfl, _, rfl, ?_⟩
            by_cases hm : m ≤ n
            · exact ifT (decide_eq_true (by omega)) (go none (by simp [pieceT, ep, en, em, hse, hm]) _ (k1.trans k2) k0 t2)
            · refine ifF (decide_eq_false (by omega)) ⟨_, rfl, _, rfl, _, rfl, Nat.le_trans f3 hl, t2, fun H3 k3 t3 => ?_⟩
              rw [TL.tl_mk, em]
              exact ⟨s2, fun q hq => go (some (n, some m)) (by simp [pieceT, ep, en, em, hse, hm]) _ ((k1.trans (k2.trans k3)).trans (Kp.new hq)) k0 (tab_new t3 hq) q upd_same⟩
end
end Ms
end

/-! text V3 -/
section
set_option Elab.async false
set_option linter.all false
set_option maxRecDepth 100000
set_option maxHeartbeats 4000000
namespace Ms
open PySem PySem.Spec PyProof.Rows L2
/-- what set_of makes of bytes -/
def readI (t : List Nat) : Option (List Int) :=
  if 1000 < t.length then none else match Vabita.wordsOf t with
  | [] => none
  | w :: ws => if w :: ws = [Vabita.NEVER] then some [] else if w :: ws = [Vabita.ALWAYS] then some [0] else (Vabita.piecesOf (w :: ws)).map fun l => boundsI (l.map castP)
theorem pieces_snoc : ∀ {ws : List (List Nat)} {l : List Vabita.Piece} {v : List Nat} {x : Vabita.Piece}, Vabita.piecesOf ws = some l → Vabita.pieceOf v = some x → Vabita.piecesOf (ws ++ [v]) = some (l ++ [x])
  | [], l, v, x, h, hx => by
    simp [Vabita.piecesOf] at h
    subst h
    simp [Vabita.piecesOf, hx]
  | u :: r, l, v, x, h, hx => by
    simp only [Vabita.piecesOf] at h
    cases e1 : Vabita.pieceOf u with
    | none => rw [e1] at h; simp at h
    | some y =>
      rw [e1] at h
      cases e2 : Vabita.piecesOf r with
      | none => rw [e2] at h; simp at h
      | some m =>
        rw [e2] at h
        simp at h
        subst h
        simp only [List.cons_append, Vabita.piecesOf, e1, pieces_snoc e2 hx]
theorem pieces_none : ∀ {ws : List (List Nat)} {v : List Nat}, v ∈ ws → Vabita.pieceOf v = none → Vabita.piecesOf ws = none
  | u :: r, v, h, hv => by
    simp only [Vabita.piecesOf]
    rcases List.mem_cons.mp h with rfl | h
    · rw [hv]
    · rw [pieces_none h hv]
      cases Vabita.pieceOf u <;> rfl
theorem pieces_length : ∀ {ws : List (List Nat)} {l : List Vabita.Piece}, Vabita.piecesOf ws = some l → l.length = ws.length
  | [], l, h => by simp [Vabita.piecesOf] at h; subst h; rfl
  | u :: r, l, h => by
    simp only [Vabita.piecesOf] at h
    cases e1 : Vabita.pieceOf u with
    | none => rw [e1] at h; simp at h
    | some y =>
      rw [e1] at h
      cases e2 : Vabita.piecesOf r with
      | none => rw [e2] at h; simp at h
      | some m =>
        rw [e2] at h
        simp at h
        subst h
        rw [List.length_cons, List.length_cons, pieces_length e2]
theorem parts_length : ∀ {t w : List Nat}, w ∈ Vabita.parts t → w.length ≤ t.length
  | [], w, h => by simp [Vabita.parts] at h; subst h; simp
  | d :: r, w, h => by
    simp only [Vabita.parts] at h
    split at h
    · rcases List.mem_cons.mp h with rfl | h
      · simp
      · have := parts_length h
        rw [List.length_cons]
        omega
    · split at h
      · next w0 ws e =>
        rcases List.mem_cons.mp h with rfl | h
        · have := parts_length (t := r) (w := w0) (by rw [e]; simp)
          rw [List.length_cons, List.length_cons]
          omega
        · have := parts_length (t := r) (w := w) (by rw [e]; simp [h])
          rw [List.length_cons]
          omega
      · simp at h
        subst h
        simp
theorem words_length {t w : List Nat} (h : w ∈ Vabita.wordsOf t) : w.length ≤ t.length := by
  unfold Vabita.wordsOf at h
  rw [List.mem_filter] at h
  exact parts_length h.1
/-! texts compared -/
section
variable {K : PySem.W.Frag} {H : Hp}
theorem dp_strs : ∀ ys : List Str, DpAll K H (ys.map V.str) (ys.map PyData.str)
  | [] => .nil
  | y :: r => .cons (.str y) (dp_strs r)
end
theorem sg_lt : ∀ b, b < 256 → sg b < 128 := by decide +kernel
theorem sh_strs {ys : List Str} (hy : ∀ y ∈ ys, ∀ c ∈ TL.tl y, c < 128) : SeqAt.shaped (.list (ys.map PyData.str)) = true := by
  refine sh_of ?_ ?_
  · induction ys with
    | nil => simp [PyData.canLayAll0]
    | cons x r ih =>
      have := ih fun y h => hy y (by simp [h])
      simp only [List.map_cons, PyData.canLayAll0, PyData.canLay0, this, Bool.and_true]
      show x.cps.all _ = true
      rw [← Array.all_toList, List.all_eq_true]
      intro c hc
      have := hy x (by simp) c hc
      simp
      omega
  · have : PyData.depthAll (ys.map PyData.str) ≤ 0 := by
      clear hy
      induction ys with
      | nil => simp [PyData.depthAll]
      | cons x r ih => simp [PyData.depthAll, PyData.depth] at ih ⊢; exact ih
    omega
theorem eqv_strs (ns ms : List Str) : PyData.eqv (.list (ns.map PyData.str)) (.list (ms.map PyData.str)) = decide (ns = ms) := by
  have h : ∀ (ns ms : List Str), PyData.eqvAll (ns.map PyData.str) (ms.map PyData.str) = decide (ns = ms) := by
    intro ns
    induction ns with
    | nil => intro ms; cases ms <;> simp [PyData.eqvAll]
    | cons n r ih =>
      intro ms
      cases ms with
      | nil => simp [PyData.eqvAll]
      | cons m q =>
        simp only [List.map_cons, PyData.eqvAll, PyData.eqv, ih q]
        rw [Bool.eq_iff_iff]
        simp
  simp only [PyData.eqv, h]
theorem join_signs : ∀ l : List Nat, TL.tl (Txt.join (Str.ofString "") (l.map fun c => (⟨#[c]⟩ : Str))) = l := fun l => by
  rw [TL.join_eq, TL.tl_join]
  have e0 : TL.tl (Str.ofString "") = [] := by decide +kernel
  rw [e0]
  induction l with
  | nil => rfl
  | cons c r ih =>
    cases r with
    | nil => rfl
    | cons d q =>
      show [c] ++ ([] ++ _) = _
      rw [List.nil_append]
      exact congrArg (c :: ·) ih
theorem len_join_signs' (l : List Nat) : (Txt.join (Str.ofString "") (l.map fun c => (⟨#[c]⟩ : Str))).length = l.length := by
  rw [TL.len_tl, join_signs]
/-- the words as texts -/
def wordsS (t : List Nat) : List Str := (Txt.split (Txt.join (Str.ofString "") ((t.map sg).map fun c => (⟨#[c]⟩ : Str))) (Str.ofString " ")).filter fun y => !decide (y = Str.ofString "")
theorem wordsS_tl {t : List Nat} (h : ∀ c ∈ t, c < 256) : (wordsS t).map TL.tl = (Vabita.wordsOf t).map (·.map sg) := by
  have e1 : TL.tl (Str.ofString " ") = [32] := by decide +kernel
  have hs := TL.split_spl (Txt.join (Str.ofString "") ((t.map sg).map fun c => (⟨#[c]⟩ : Str))) (Str.ofString " ") (by rw [e1]; simp) (TL.kind_ok (by decide +kernel))
  rw [e1, join_signs, split_parts] at hs
  rw [← words_sg h]
  unfold Vabita.wordsOf wordsS
  rw [← hs, List.filter_map]
  congr 1
  apply List.filter_congr
  intro y _
  show (!decide (y = Str.ofString "")) = !((TL.tl y).isEmpty)
  congr 1
  rw [Bool.eq_iff_iff, decide_eq_true_iff, List.isEmpty_iff]
  constructor
  · rintro rfl
    decide +kernel
  · intro h
    exact TL.ext_tl (h.trans (by decide +kernel))
theorem wordsS_get {t : List Nat} (h : ∀ c ∈ t, c < 256) {i : Nat} {y : Str} (hy : (wordsS t)[i]? = some y) : ∃ v, (Vabita.wordsOf t)[i]? = some v ∧ TL.tl y = v.map sg := by
  have e := wordsS_tl h
  have h1 : ((wordsS t).map TL.tl)[i]? = some (TL.tl y) := by rw [List.getElem?_map, hy]; rfl
  rw [e] at h1
  exact map_get h1 |>.imp fun v hv => ⟨hv.1, hv.2⟩
theorem wordsS_length {t : List Nat} (h : ∀ c ∈ t, c < 256) : (wordsS t).length = (Vabita.wordsOf t).length := by
  have := congrArg List.length (wordsS_tl h)
  simpa using this
theorem wordsS_is {t : List Nat} (h : ∀ c ∈ t, c < 256) {v : List Nat} {x : Str} (hx : TL.tl x = v) (hv : ∀ u ∈ Vabita.wordsOf t, (u.map sg = v ↔ u = v)) : wordsS t = [x] ↔ Vabita.wordsOf t = [v] := by
  have e := wordsS_tl h
  constructor
  · intro q
    rw [q] at e
    cases ew : Vabita.wordsOf t with
    | nil => rw [ew] at e; simp at e
    | cons u r =>
      cases r with
      | nil =>
        rw [ew] at e
        simp at e
        rw [hx] at e
        rw [(hv u (by rw [ew]; simp)).mp e.symm]
      | cons _ _ => rw [ew] at e; simp at e
  · intro q
    rw [q] at e
    cases ew : wordsS t with
    | nil => rw [ew] at e; simp at e
    | cons u r =>
      cases r with
      | nil =>
        rw [ew] at e
        simp at e
        rw [show u = x from TL.ext_tl (by rw [e, hx]; exact (hv v (by rw [q]; simp)).mpr rfl)]
      | cons _ _ => rw [ew] at e; simp at e
section
variable {P : Program} {w : World} {K : PySem.W.Frag} {mg : Str → Option Value} {base : Heap} {J NT : Addr}
/-! set_of -/
def spSet (J NT : Addr) : Sp := fun vs H Q E => ∃ (a : Addr) (t : List Nat), vs = [.ref a] ∧ IL H a (up t) ∧ t.length ≤ 2500 ∧ (∀ c ∈ t, c < 256) ∧ Tab J H ∧ ∀ H', Kp J H H' → Tab J H' → (match readI t with
  | some s => ∀ p, NL H p → IL H' p s → Q (.ref p) H'
  | none => E (.ref NT) none H')
theorem sc_set : FnScope ["some", "words", "byte", "word"] ["some"] (defScope (top 50)) := ⟨rfl, rfl, rfl, by decide +kernel, rfl, by decide +kernel, by decide +kernel⟩
theorem ok_set (d : DefAt K "set_of" (top 50)) (G : Gm K mg) (B : Bi mg) (N : NtF K mg NT) (g1 : GC mg "MOST_BYTES" (.int 1000)) (gN : GL K mg "NEVER" []) (gA : GL K mg "ALWAYS" [.int 0]) (F1 : Fn P w K mg base CX0 1 "sign_of" ["byte"] spSign)
    (F2 : Fn P w K mg base (L2N.CX P w) 2 "piece_of" ["word"] (spPce J NT)) (F3 : Fn P w K mg base CX0 3 "bounds_of" ["pieces"] (spBnd J)) : Fn P w K mg base (L2N.CX P w) 4 "set_of" ["some"] (spSet J NT) := by
  obtain ⟨aN, gN, sN⟩ := gN
  obtain ⟨aA, gA, sA⟩ := gA
  refine d.fnG G sc_set (fun _ _ _ _ _ _ us hl => match us, hl with | [_], _ => rfl) (fun vs H Q E h => ?_) (fun f cdv A outer s H vs Q E hr h => ?_)
  · obtain ⟨a, b, rfl, _⟩ := h
    rfl
  · obtain ⟨a, t, rfl, ha, hl, hby, tb, k⟩ := h
    have hr1 := hr.mono (show 1 ≤ 3 by decide)
    have hr2 := hr.mono (show 2 ≤ 3 by decide)
    have tk : L2N.Takes (cxOf (L2N.CX P w) P w K mg base ["some", "words", "byte", "word"] "set_of" (defScope (top 50)) f cdv A outer s H E) (fun cls d _ H => E cls d H) := L2N.takes_of rfl rfl rfl rfl
    refine ⟨_, pss_cons (ps_if (pt_cmp (pc_gt (pe_callB call_len_seq (by rfl) B.len PySem.boot_len (pa_cons (pv 0) pa_nil)) (pe_gcv rfl g1))) (pss_one (L2N.ps_raise rfl tk (L2N.pmk_own PySem.F.excBase_ValueError N.q N.g N.k (raises_own N.s N.t) (by exact rfl)))) pss_nil)
      (pss_cons (ps_setLc (i := 1) (own := [("word", 3)]) (g := gName 3) rfl sc_set.nd rfl rfl rfl (pi_list (pe_split (pe_join pe_str (pe_lc (own := [("byte", 2)]) (g := gName 2) rfl sc_set.nd (pi_list (pv 0)) (blkOk_by (N := ["some", "words", "byte", "word"]) (sc := defScope (top 50)) (by decide +kernel)) (fun _ _ _ _ _ => pg_name (i := 2) sc_set.nd rfl (Or.inl rfl)) (fun _ _ _ _ _ => pts_nil) (fun _ _ _ _ _ => pe_fn F1 hr1 (pa_cons (pv 2) pa_nil)))) pe_str))
          (blkOk_by (N := ["some", "words", "byte", "word"]) (sc := defScope (top 50)) (by decide +kernel)) (fun _ _ _ _ _ => pg_name (i := 3) sc_set.nd rfl (Or.inl rfl)) (fun _ _ _ _ _ => pts_one (pt_cmpR op_ne (pv 3) pe_str (nomark _))) (fun _ _ _ _ _ => pv 3))
      (pss_cons (ps_if (pt_cmpR (op_eqD hr.units) (pv 1) (pe_lst (pa_cons pe_str pa_nil)) (nomark _)) (pss_one (ps_ret (pe_callTy call_list_of (by rfl) B.list (by decide +kernel) (pa_cons (pe_gcv rfl gN) pa_nil)))) pss_nil)
      (pss_cons (ps_if (pt_cmpR (op_eqD hr.units) (pv 1) (pe_lst (pa_cons pe_str pa_nil)) (nomark _)) (pss_one (ps_ret (pe_callTy call_list_of (by rfl) B.list (by decide +kernel) (pa_cons (pe_gcv rfl gA) pa_nil)))) pss_nil)
      (pss_cons (ps_if (pt_cmpR (op_eqD hr.units) (pv 1) (pe_lst pa_nil) (nomark _)) (pss_one (L2N.ps_raise rfl tk (L2N.pmk_own PySem.F.excBase_ValueError N.q N.g N.k (raises_own N.s N.t) (by exact rfl)))) pss_nil)
      (pss_one (ps_ret (pe_fn F3 hr (pa_cons (pe_lcX (own := [("word", 3)]) (g := gName 3) (te := fun E => tCall (spPce J NT) [] E (tCons (tVar 3) tNil)) rfl rfl tk rfl sc_set.nd (pi_list (pv 1)) (blkOk_by (N := ["some", "words", "byte", "word"]) (sc := defScope (top 50)) (by decide +kernel)) (fun _ _ _ _ _ _ => pg_name (i := 3) sc_set.nd rfl (Or.inl rfl)) (fun _ _ _ _ _ _ _ hx => pe_fnX F2 hr2 hx (pa_cons (pv 3) pa_nil))) pa_nil)))))))), ?_⟩
    have hlu : (up t).length = t.length := by unfold up; rw [List.length_map]
    refine ⟨_, rfl, a, _, rfl, .inl (SqL.of ha), _, _, rfl, rfl, _, rfl, ?_⟩
    rw [List.length_map, hlu]
    by_cases c0 : 1000 < t.length
    · refine ifT (decide_eq_true (by omega)) ?_
      have := k H Kp.refl tb
      rw [readI, if_pos c0] at this
      exact this
    refine ifF (decide_eq_false (by omega)) ?_
    refine ⟨⟨_, rfl⟩, _, rfl, a, rfl, ⟨_, SqL.of ha⟩, fun D hD => lc_it (walk_list (K := K) (a := a) (xs := (up t).map V.int)) (LcP J H D fun i acc _ => acc = (((t.map sg).take i).map fun c => (⟨#[c]⟩ : Str)).map V.str) (LcP.start hD tb rfl) (fun i H' _ p => SqL.of (p.kp.lst ha)) (fun i x H' H2 hi p y => ?_) (fun H' p => ?_)⟩
    · obtain ⟨rfl, hx⟩ := y
      obtain ⟨m, hm, rfl⟩ := map_get hx
      obtain ⟨b, hb, rfl⟩ := map_get (show (t.map fun (n : Nat) => (n : Int))[i]? = some m from hm)
      obtain ⟨acc, h1, rfl⟩ := p.at_
      refine ⟨rfl, _, rfl, b, rfl, p.app Kp.refl h1 ?_ ?_⟩
      · rw [List.length_map, List.length_map, List.length_take, List.length_map]
        exact small (by omega)
      · rw [take_snoc (show (t.map sg)[i]? = some (sg b) by rw [List.getElem?_map, hb]; rfl), List.map_append, List.map_append]
        rfl
    obtain ⟨acc, h1, rfl⟩ := p.at_
    have k1 := p.kp
    have t1 := p.tab
    clear p
    rw [List.length_map, hlu, List.take_of_length_le (by rw [List.length_map]; exact Nat.le_refl _)] at h1
    refine ⟨_, D, (t.map sg).map fun c => (⟨#[c]⟩ : Str), rfl, rfl, .inl (SqL.of h1), ?_, ?_⟩
    · have e0 : (Str.ofString "").length = 0 := by decide +kernel
      have e1 : ∀ l : List Nat, ((l.map fun c => (⟨#[c]⟩ : Str)).map (·.length)).sum = l.length := fun l => by
        induction l with
        | nil => rfl
        | cons c r ih =>
          rw [List.map_cons, List.map_cons, List.sum_cons, ih, List.length_cons]
          show 1 + r.length = r.length + 1
          omega
      rw [e0, e1, List.length_map]
      omega
    refine ⟨⟨_, rfl⟩, _, _, rfl, rfl, by decide +kernel, ?_, fun p1 hp1 => ?_⟩
    · rw [len_join_signs', List.length_map]
      exact Nat.le_trans (Nat.add_le_add_right hl 2) (by decide)
    have hwd : (Txt.split (Txt.join (Str.ofString "") ((t.map sg).map fun c => (⟨#[c]⟩ : Str))) (Str.ofString " ")).filter (fun y => !decide (y = Str.ofString "")) = wordsS t := rfl
    have hsl := PyProof.Rows.split_le (Txt.join (Str.ofString "") ((t.map sg).map fun c => (⟨#[c]⟩ : Str))) (Str.ofString " ")
    rw [len_join_signs', List.length_map] at hsl
    generalize Txt.split (Txt.join (Str.ofString "") ((t.map sg).map fun c => (⟨#[c]⟩ : Str))) (Str.ofString " ") = zs at hwd hsl
    have k2 : Kp J H (upd H' p1 (.lst (zs.map V.str))) := k1.trans (Kp.new hp1)
    have t2 : Tab J (upd H' p1 (.lst (zs.map V.str))) := tab_new t1 hp1
    refine ⟨p1, rfl, ⟨_, SqL.of upd_same⟩, fun D2 hD2 => lc_it (walk_list (K := K) (a := p1) (xs := zs.map V.str)) (LcP J _ D2 fun i acc _ => acc = ((zs.take i).filter fun y => !decide (y = Str.ofString "")).map V.str) (LcP.start hD2 t2 rfl) (fun i H' _ p => SqL.of (p.kp.lst upd_same)) (fun i x H5 H2 hi p y => ?_) (fun H2 p => ?_)⟩
    · obtain ⟨rfl, hx⟩ := y
      obtain ⟨z, hz, rfl⟩ := map_get hx
      obtain ⟨acc, h1, rfl⟩ := p.at_
      refine ⟨rfl, _, rfl, rfl, _, rfl, ?_⟩
      have ez : (!decide (V.str z = V.str (Str.ofString ""))) = !decide (z = Str.ofString "") := by
        rw [dec_str]
        rfl
      cases cz : (!decide (z = Str.ofString "")) with
      | true =>
        refine ifT (ez.trans cz) ⟨_, rfl, p.app Kp.refl h1 ?_ ?_⟩
        · rw [List.length_map]
          refine small (Nat.le_trans (List.length_filter_le _ _) ?_)
          rw [List.length_take]
          omega
        · rw [take_snoc hz, List.filter_append, List.map_append]
          simp only [List.filter_cons, List.filter_nil]
          rw [if_pos cz]
          rfl
      | false =>
        refine ifF (ez.trans cz) (p.skip Kp.refl h1 ?_)
        rw [take_snoc hz, List.filter_append, List.map_append]
        simp only [List.filter_cons, List.filter_nil]
        rw [if_neg (by rw [cz]; exact Bool.false_ne_true)]
        simp
    obtain ⟨acc, h2, rfl⟩ := p.at_
    rw [List.length_map, List.take_length, hwd] at h2
    have k3 := k2.trans p.kp
    have t3 := p.tab
    clear p h1 k1 t1 k2 t2
    have wb : ∀ v ∈ Vabita.wordsOf t, ∀ c ∈ v, c < 256 := fun v hv c hc => hby c ((words_mem hv).1 c hc)
    have shw : ∀ y ∈ wordsS t, ∀ c ∈ TL.tl y, c < 128 := fun y hy c hc => by
      obtain ⟨i, hi⟩ := List.mem_iff_getElem?.mp hy
      obtain ⟨v, hv, e⟩ := wordsS_get hby hi
      rw [e] at hc
      obtain ⟨b, hb, rfl⟩ := List.mem_map.mp hc
      exact sg_lt b (wb v (List.mem_of_getElem? hv) b hb)
    have hN : wordsS t = [Str.ofString "never"] ↔ Vabita.wordsOf t = [Vabita.NEVER] := wordsS_is hby (by decide +kernel) fun u hu => never_sg (wb u hu)
    have hA : wordsS t = [Str.ofString "always"] ↔ Vabita.wordsOf t = [Vabita.ALWAYS] := wordsS_is hby (by decide +kernel) fun u hu => always_sg (wb u hu)
    have hE : wordsS t = [] ↔ Vabita.wordsOf t = [] := by
      rw [← List.length_eq_zero_iff, wordsS_length hby, List.length_eq_zero_iff]
    have lw : (wordsS t).length ≤ 3000 := by
      rw [← hwd]
      exact Nat.le_trans (List.length_filter_le _ _) (by omega)
    have s1 : 1 ≤ sizeLine := by decide
    have rd : readI t = (match Vabita.wordsOf t with | [] => none | w :: ws => if w :: ws = [Vabita.NEVER] then some [] else if w :: ws = [Vabita.ALWAYS] then some [0] else (Vabita.piecesOf (w :: ws)).map fun l => boundsI (l.map castP)) := by
      rw [readI, if_neg c0]
    -- never
    refine ⟨_, rfl, s1, fun q1 hq1 => ?_⟩
    have kq1 : Kp J H2 (upd H2 q1 (.lst ([Str.ofString "never"].map V.str))) := Kp.new hq1
    refine ⟨_, _, Dp.lst (SqL.of (kq1.lst h2)) (dp_strs _), Dp.lst (SqL.of upd_same) (dp_strs [Str.ofString "never"]), sh_strs shw, by decide +kernel, _, rfl, ?_⟩
    by_cases c1 : wordsS t = [Str.ofString "never"]
    · refine ifT (by rw [eqv_strs]; exact decide_eq_true c1) ⟨aN, _, rfl, .inl (sN _), fun l hl0 => ?_⟩
      have kl : Kp J H _ := k3.trans (kq1.trans (Kp.new (o := .lst []) hl0))
      have kk := k _ kl (kl.tab tb)
      rw [rd, hN.mp c1] at kk
      exact kk l ((NL.new hl0).back (k3.trans kq1)) upd_same
    refine ifF (by rw [eqv_strs]; exact decide_eq_false c1) ?_
    -- always
    have k4 := k3.trans kq1
    have t4 := kq1.tab t3
    have h4 := kq1.lst h2
    clear k3 t3 h2
    refine ⟨_, rfl, s1, fun q2 hq2 => ?_⟩
    have kq2 : Kp J _ (upd (upd H2 q1 (.lst ([Str.ofString "never"].map V.str))) q2 (.lst ([Str.ofString "always"].map V.str))) := Kp.new hq2
    refine ⟨_, _, Dp.lst (SqL.of (kq2.lst h4)) (dp_strs _), Dp.lst (SqL.of upd_same) (dp_strs [Str.ofString "always"]), sh_strs shw, by decide +kernel, _, rfl, ?_⟩
    by_cases c2 : wordsS t = [Str.ofString "always"]
    · refine ifT (by rw [eqv_strs]; exact decide_eq_true c2) ⟨aA, _, rfl, .inl (sA _), fun l hl0 => ?_⟩
      have kl : Kp J H _ := k4.trans (kq2.trans (Kp.new (o := .lst [.int 0]) hl0))
      have kk := k _ kl (kl.tab tb)
      rw [rd, hA.mp c2] at kk
      exact kk l ((NL.new hl0).back (k4.trans kq2)) upd_same
    refine ifF (by rw [eqv_strs]; exact decide_eq_false c2) ?_
    have k5 := k4.trans kq2
    have t5 := kq2.tab t4
    have h5 := kq2.lst h4
    clear k4 t4 h4
    -- no words
    refine ⟨_, rfl, Nat.zero_le _, fun q3 hq3 => ?_⟩
    have kq3 : Kp J _ (upd (upd (upd H2 q1 (.lst ([Str.ofString "never"].map V.str))) q2 (.lst ([Str.ofString "always"].map V.str))) q3 (.lst (([] : List Str).map V.str))) := Kp.new hq3
    refine ⟨_, _, Dp.lst (SqL.of (kq3.lst h5)) (dp_strs _), Dp.lst (SqL.of upd_same) (dp_strs []), sh_strs shw, by decide +kernel, _, rfl, ?_⟩
    have k6 := k5.trans kq3
    have t6 := kq3.tab t5
    have h6 := kq3.lst h5
    clear k5 t5 h5
    by_cases c3 : wordsS t = []
    · refine ifT (by rw [eqv_strs]; exact decide_eq_true c3) ?_
      have kk := k _ k6 t6
      rw [rd, hE.mp c3] at kk
      exact kk
    refine ifF (by rw [eqv_strs]; exact decide_eq_false c3) ?_
    clear kq1 kq2 kq3
    have rd2 : readI t = (Vabita.piecesOf (Vabita.wordsOf t)).map fun l => boundsI (l.map castP) := by
      rw [rd]
      cases e : Vabita.wordsOf t with
      | nil => exact absurd (hE.mpr e) c3
      | cons v r =>
        show (if _ then _ else _) = _
        rw [if_neg (fun z => c1 (hN.mpr (e.trans z))), if_neg (fun z => c2 (hA.mpr (e.trans z)))]
    refine ⟨_, rfl, D2, rfl, ⟨_, SqL.of h6⟩, fun D3 hD3 => lc_it (walk_list (K := K) (a := D2) (xs := (wordsS t).map V.str)) (LcP J _ D3 fun i acc H => ∃ l, Vabita.piecesOf ((Vabita.wordsOf t).take i) = some l ∧ ∃ ts : List Addr, acc = ts.map V.ref ∧ Paired (PcAt H) ts (l.map castP)) (LcP.start hD3 t6 ⟨[], rfl, [], rfl, .nil⟩) (fun i H' _ p => SqL.of (p.kp.lst h6)) (fun i x H5 H7 hi p y => ?_) (fun H7 p => ?_)⟩
    · obtain ⟨rfl, hx⟩ := y
      obtain ⟨z, hz, rfl⟩ := map_get hx
      obtain ⟨v, hv, ez⟩ := wordsS_get hby hz
      obtain ⟨acc, h1, l, hl1, ts, rfl, hts⟩ := p.at_
      have vm := List.mem_of_getElem? hv
      have lz : z.length ≤ 3000 := by
        have h1 := words_length vm
        rw [TL.len_tl, ez, List.length_map]
        omega
      refine ⟨rfl, _, rfl, z, rfl, lz, p.tab, fun H8 k8 t8 => ?_⟩
      rw [piece_par, ez, piece_sg (wb v vm)]
      cases ev : Vabita.pieceOf v with
      | none =>
        have kk := k _ ((k6.trans p.kp).trans k8) t8
        rw [rd2, pieces_none vm ev] at kk
        exact kk
      | some x =>
        intro m hm
        have h8 := k8.lst h1
        refine p.app k8 h1 ?_ ⟨l ++ [x], by rw [take_snoc hv]; exact pieces_snoc hl1 ev, ts ++ [m], by rw [List.map_append]; rfl, ?_⟩
        · rw [List.length_map, paired_len hts, List.length_map, pieces_length hl1, List.length_take, ← wordsS_length hby]
          exact small (by omega)
        · rw [List.map_append]
          exact paired_snoc ((tk_upd h8).pcs (k8.pcs hts)) (tk_upd h8 _ _ hm)
    · obtain ⟨acc, h1, l, hl1, ts, rfl, hts⟩ := p.at_
      rw [List.length_map, wordsS_length hby, List.take_length] at hl1
      have ll := pieces_length hl1
      rw [← wordsS_length hby] at ll
      refine ⟨D3, l.map castP, rfl, ⟨ts, h1, hts⟩, by rw [List.length_map]; omega, p.tab, fun H8 q k8 t8 nq hq => ?_⟩
      have kk := k _ ((k6.trans p.kp).trans k8) t8
      rw [rd2, hl1] at kk
      exact kk q (nq.back (k6.trans p.kp)) hq
end
end Ms
end

/-! text V4 -/
section
set_option Elab.async false
set_option linter.all false
set_option maxRecDepth 100000
set_option maxHeartbeats 4000000
namespace Ms
open PySem PySem.Spec PyProof.Rows L2
theorem pcs_up : ∀ p : List Nat, pcs (up p) = (Vabita.pieces p).map castP
  | [] => rfl
  | [a] => rfl
  | a :: b :: r => by
    have ih := pcs_up r
    show (((a : Int), some (b : Int)) : Pc) :: pcs (up r) = _
    rw [ih]
    rfl
theorem decimal_num : ∀ (f n : Nat), n < 10 ^ f → 0 < f → Vabita.decimal f n = TL.numL n
  | 0, n, _, h => absurd h (by decide)
  | f + 1, n, h, _ => by
    unfold Vabita.decimal
    by_cases c : n < 10
    · rw [if_pos c, TL.numL_lt c]
    · rw [if_neg c, TL.numL_step (by omega), decimal_num f (n / 10) (by rw [Nat.pow_succ] at h; omega) (by
        cases f with
        | zero => simp at h; omega
        | succ => omega)]
theorem tl_str {n : Nat} (h : n < 10 ^ 12) : TL.tl (Str.ofString (toString (n : Int))) = Vabita.digits n := by
  rw [TL.tl_num, Vabita.digits, decimal_num 12 n h (by decide)]
theorem digits_len {n : Nat} (h : n < 10 ^ 12) : (Vabita.digits n).length ≤ 12 := by
  rw [Vabita.digits, decimal_num 12 n h (by decide)]
  exact TL.numL_len (by decide) h
def Small (y : Vabita.Piece) : Prop := y.1 < 10 ^ 11 ∧ ∀ e, y.2 = some e → e < 10 ^ 11
theorem show_len {y : Vabita.Piece} (h : Small y) : (Vabita.showPiece y).length ≤ 30 := by
  obtain ⟨b, e⟩ := y
  have h1 := digits_len (n := b) (Nat.lt_trans h.1 (by decide))
  unfold Vabita.showPiece
  cases e with
  | none => simp; omega
  | some e =>
    have h2 := digits_len (n := e) (Nat.lt_trans (h.2 e rfl) (by decide))
    simp only
    split
    · omega
    · simp; omega
theorem log_small {n : Nat} (h : n < 10 ^ 11) : (n : Int).natAbs.log2 < 1920 := by
  rw [Int.natAbs_natCast]
  by_cases h0 : n = 0
  · subst h0; decide
  · exact (Nat.log2_lt h0).mpr (Nat.lt_of_lt_of_le h (by
      refine Nat.le_trans (show 10 ^ 11 ≤ 2 ^ 40 by decide) (Nat.pow_le_pow_right (by decide) (by decide))))
theorem joinL_blanks : ∀ l : List (List Nat), TL.joinL [32] l = Vabita.blanks l
  | [] => rfl
  | [_] => rfl
  | a :: b :: r => by
    show a ++ ([32] ++ TL.joinL [32] (b :: r)) = a ++ (32 :: Vabita.blanks (b :: r))
    rw [joinL_blanks (b :: r)]
    rfl
section
variable {P : Program} {w : World} {K : PySem.W.Frag} {mg : Str → Option Value} {base : Heap} {J : Addr}
/-! piece_text -/
def spPt : Sp := fun vs H Q _ => ∃ (t : Addr) (y : Vabita.Piece), vs = [.ref t] ∧ PcAt H t (castP y) ∧ Small y ∧ Q (.str ⟨(Vabita.showPiece y).toArray⟩) H
theorem sc_pt : FnScope ["piece"] ["piece"] (defScope (top 51)) := ⟨rfl, rfl, rfl, by decide +kernel, rfl, by decide +kernel, by decide +kernel⟩
theorem ok_pt (d : DefAt K "piece_text" (top 51)) (G : Gm K mg) (B : Bi mg) : Fn P w K mg base CX0 1 "piece_text" ["piece"] spPt := by
  refine d.fn G sc_pt (fun _ _ _ _ _ _ us hl => match us, hl with | [_], _ => rfl) (fun vs H Q E h => ?_) (fun f cdv A outer s H vs Q E hr h => ?_)
  · obtain ⟨t, x, rfl, _⟩ := h
    rfl
  · obtain ⟨t, ⟨b, e⟩, rfl, ht, hs, k⟩ := h
    refine ⟨_, pss_cons (ps_if (pt_cmp (pc_isN (pe_ix ix_tup (pv 0) pe_int (fun _ _ => rfl)))) (pss_one (ps_ret (pe_op op_add_str (pe_callTy call_str_int (by rfl) B.str (by decide +kernel) (pa_cons (pe_ix ix_tup (pv 0) pe_int (fun _ _ => rfl)) pa_nil)) pe_str))) pss_nil)
      (pss_cons (ps_if (pt_cmp (pc_eqI (pe_ix ix_tup (pv 0) pe_int (fun _ _ => rfl)) (pe_op op_add (pe_ix ix_tup (pv 0) pe_int (fun _ _ => rfl)) pe_int))) (pss_one (ps_ret (pe_callTy call_str_int (by rfl) B.str (by decide +kernel) (pa_cons (pe_ix ix_tup (pv 0) pe_int (fun _ _ => rfl)) pa_nil)))) pss_nil)
      (pss_one (ps_ret (pe_op op_add_str (pe_op op_add_str (pe_callTy call_str_int (by rfl) B.str (by decide +kernel) (pa_cons (pe_ix ix_tup (pv 0) pe_int (fun _ _ => rfl)) pa_nil)) pe_str) (pe_callTy call_str_int (by rfl) B.str (by decide +kernel) (pa_cons (pe_ix ix_tup (pv 0) pe_int (fun _ _ => rfl)) pa_nil)))))), ?_⟩
    have b12 : b < 10 ^ 12 := Nat.lt_trans hs.1 (by decide)
    have tb := tl_str b12
    have lb : (Str.ofString (toString (b : Int))).length ≤ 12 := by rw [TL.len_tl, tb]; exact digits_len b12
    have td : TL.tl (Str.ofString "..") = [46, 46] := by decide +kernel
    have ld : (Str.ofString "..").length = 2 := by decide +kernel
    have lgb := log_small hs.1
    cases e with
    | none =>
      refine ⟨_, rfl, t, _, 1, V.non, rfl, rfl, SqT.of ht, by exact atI_nat rfl, _, rfl, ifT rfl ⟨_, rfl, t, _, 0, V.int b, rfl, rfl, SqT.of ht, by exact atI_nat rfl, (b : Int), rfl, lgb, _, _, rfl, rfl, ?_, ?_⟩⟩
      · exact Nat.le_trans (Nat.add_le_add lb (Nat.le_of_eq ld)) (by decide)
      · have e1 : (Str.ofString (toString (b : Int)) ++ Str.ofString "..") = ⟨(Vabita.showPiece (b, none)).toArray⟩ := TL.ext_tl (by rw [TL.tl_append, tb, td]; rfl)
        rw [← e1] at k
        exact k
    | some e =>
      have he := hs.2 e rfl
      have e12 : e < 10 ^ 12 := Nat.lt_trans he (by decide)
      have te := tl_str e12
      have le : (Str.ofString (toString (e : Int))).length ≤ 12 := by rw [TL.len_tl, te]; exact digits_len e12
      refine ⟨_, rfl, t, _, 1, V.int e, rfl, rfl, SqT.of ht, by exact atI_nat rfl, _, rfl, ifF rfl ⟨_, rfl, t, _, 1, V.int e, rfl, rfl, SqT.of ht, by exact atI_nat rfl, _, rfl, t, _, 0, V.int b, rfl, rfl, SqT.of ht, by exact atI_nat rfl, _, _, rfl, rfl, _, _, rfl, rfl, _, rfl, ?_⟩⟩
      by_cases c : e = b + 1
      · refine ifT (decide_eq_true (by omega)) ⟨_, rfl, t, _, 0, V.int b, rfl, rfl, SqT.of ht, by exact atI_nat rfl, (b : Int), rfl, lgb, ?_⟩
        have e1 : Str.ofString (toString (b : Int)) = ⟨(Vabita.showPiece (b, some e)).toArray⟩ := TL.ext_tl (by rw [tb, TL.tl_mk]; simp only [Vabita.showPiece]; rw [if_pos c])
        rw [← e1] at k
        exact k
      · refine ifF (decide_eq_false (by omega)) ⟨_, rfl, t, _, 0, V.int b, rfl, rfl, SqT.of ht, by exact atI_nat rfl, (b : Int), rfl, lgb, _, _, rfl, rfl, ?_, _, rfl, t, _, 1, V.int e, rfl, rfl, SqT.of ht, by exact atI_nat rfl, (e : Int), rfl, log_small he, _, _, rfl, rfl, ?_, ?_⟩
        · exact Nat.le_trans (Nat.add_le_add lb (Nat.le_of_eq ld)) (by decide)
        · refine Nat.le_trans (Nat.add_le_add (b := 14) ?_ le) (by decide)
          rw [TL.len_tl, TL.tl_append, List.length_append, ← TL.len_tl, ← TL.len_tl, ld]
          omega
        · have e1 : (Str.ofString (toString (b : Int)) ++ Str.ofString ".." ++ Str.ofString (toString (e : Int))) = ⟨(Vabita.showPiece (b, some e)).toArray⟩ := TL.ext_tl (by
            rw [TL.tl_append, TL.tl_append, tb, td, te, TL.tl_mk]
            simp only [Vabita.showPiece]
            rw [if_neg c, List.append_assoc])
          rw [← e1] at k
          exact k
/-! text_of -/
def spText (J : Addr) : Sp := fun vs H Q _ => ∃ (a : Addr) (p : List Nat), vs = [.ref a] ∧ IL H a (up p) ∧ p.length ≤ 3000 ∧ (∀ b ∈ p, b ≤ Vabita.LAST) ∧ Tab J H ∧ ∀ H', Kp J H H' → Tab J H' → Q (.str ⟨(Vabita.shown p).toArray⟩) H'
theorem sc_text : FnScope ["bounds", "piece"] ["bounds"] (defScope (top 52)) := ⟨rfl, rfl, rfl, by decide +kernel, rfl, by decide +kernel, by decide +kernel⟩
theorem pieces_small : ∀ {p : List Nat}, (∀ b ∈ p, b ≤ Vabita.LAST) → ∀ x ∈ Vabita.pieces p, Small x
  | [], h, x, hx => by simp [Vabita.pieces] at hx
  | [a], h, x, hx => by
    simp [Vabita.pieces] at hx
    subst hx
    have := h a (by simp)
    unfold Vabita.LAST at this
    exact ⟨by show a < 10 ^ 11; omega, fun e he => by cases he⟩
  | a :: b :: r, h, x, hx => by
    rcases List.mem_cons.mp hx with rfl | hx
    · have h1 := h a (by simp)
      have h2 := h b (by simp)
      unfold Vabita.LAST at h1 h2
      exact ⟨by show a < 10 ^ 11; omega, fun e he => by cases he; omega⟩
    · exact pieces_small (fun c hc => h c (by simp [hc])) x hx
theorem ok_text (d : DefAt K "text_of" (top 52)) (G : Gm K mg) (gN : GL K mg "NEVER" []) (gA : GL K mg "ALWAYS" [.int 0]) (F1 : Fn P w K mg base CX0 2 "pieces_of" ["bounds"] (spPcs J)) (F2 : Fn P w K mg base CX0 1 "piece_text" ["piece"] spPt) : Fn P w K mg base CX0 3 "text_of" ["bounds"] (spText J) := by
  obtain ⟨aN, gN, sN⟩ := gN
  obtain ⟨aA, gA, sA⟩ := gA
  refine d.fn G sc_text (fun _ _ _ _ _ _ us hl => match us, hl with | [_], _ => rfl) (fun vs H Q E h => ?_) (fun f cdv A outer s H vs Q E hr h => ?_)
  · obtain ⟨a, p, rfl, _⟩ := h
    rfl
  · obtain ⟨a, p, rfl, ha, hl, hM, tb, k⟩ := h
    have hr1 := hr.mono (show 1 ≤ 2 by decide)
    refine ⟨_, pss_cons (ps_if (pt_cmpR (op_eqD hr.units) (pv 0) (pe_gcv rfl gN) (nomark _)) (pss_one (ps_ret pe_str)) pss_nil)
      (pss_cons (ps_if (pt_cmpR (op_eqD hr.units) (pv 0) (pe_gcv rfl gA) (nomark _)) (pss_one (ps_ret pe_str)) pss_nil)
      (pss_one (ps_ret (pe_join pe_str (pe_lc (own := [("piece", 1)]) (g := gName 1) rfl sc_text.nd (pi_list (pe_fn F1 hr (pa_cons (pv 0) pa_nil))) (blkOk_by (N := ["bounds", "piece"]) (sc := defScope (top 52)) (by decide +kernel)) (fun _ _ _ _ _ => pg_name (i := 1) sc_text.nd rfl (Or.inl rfl)) (fun _ _ _ _ _ => pts_nil) (fun _ _ _ _ _ => pe_fn F2 hr1 (pa_cons (pv 1) pa_nil))))))), ?_⟩
    have inj : ∀ q : List Nat, decide (up p = up q) = decide (p = q) := fun q => by
      rw [decide_eq_decide]
      constructor
      · intro h
        have := congrArg (List.map Int.toNat) h
        simpa [up, List.map_map, Function.comp_def] using this
      · rintro rfl
        rfl
    refine ⟨_, rfl, _, _, dp_il ha, Dp.lst (sN _) (dp_ints []), sh_ints _, by decide +kernel, _, rfl, ?_⟩
    unfold Vabita.shown at k
    by_cases c1 : p = []
    · refine ifT (by rw [eqv_ints, show ([] : List Int) = up [] from rfl, inj]; exact decide_eq_true c1) ?_
      rw [if_pos c1] at k
      have e : Str.ofString "never" = ⟨(Vabita.NEVER).toArray⟩ := TL.ext_tl (by decide +kernel)
      rw [← e] at k
      exact k _ Kp.refl tb
    refine ifF (by rw [eqv_ints, show ([] : List Int) = up [] from rfl, inj]; exact decide_eq_false c1) ?_
    rw [if_neg c1] at k
    refine ⟨_, rfl, _, _, dp_il ha, Dp.lst (sA _) (dp_ints [0]), sh_ints _, by decide +kernel, _, rfl, ?_⟩
    by_cases c2 : p = [0]
    · refine ifT (by rw [eqv_ints, show ([0] : List Int) = up [0] from rfl, inj]; exact decide_eq_true c2) ?_
      rw [if_pos c2] at k
      have e : Str.ofString "always" = ⟨(Vabita.ALWAYS).toArray⟩ := TL.ext_tl (by decide +kernel)
      rw [← e] at k
      exact k _ Kp.refl tb
    refine ifF (by rw [eqv_ints, show ([0] : List Int) = up [0] from rfl, inj]; exact decide_eq_false c2) ?_
    rw [if_neg c2] at k
    have hlu : (up p).length = p.length := by unfold up; rw [List.length_map]
    refine ⟨⟨_, rfl⟩, _, rfl, a, up p, rfl, ha, by omega, fun H1 p1 k1 h1 => ?_⟩
    have lp := pcs_length (up p)
    rw [pcs_up] at h1 lp
    rw [List.length_map] at lp
    obtain ⟨ts, hp1, hts⟩ := h1
    refine ⟨p1, rfl, ⟨_, SqL.of hp1⟩, fun D hD => lc_it (walk_list (K := K) (a := p1) (xs := ts.map V.ref)) (LcP J H1 D fun i acc _ => acc = (((Vabita.pieces p).take i).map fun y => (⟨(Vabita.showPiece y).toArray⟩ : Str)).map V.str) (LcP.start hD (k1.tab tb) rfl) (fun i H' _ p => SqL.of (p.kp.lst hp1)) (fun i x H' H2 hi q y => ?_) (fun H' q => ?_)⟩
    · obtain ⟨rfl, hx⟩ := y
      obtain ⟨t, ht, rfl⟩ := map_get hx
      obtain ⟨z, hz, hzt⟩ := paired_get (q.kp.pcs hts) ht
      obtain ⟨y, hy, rfl⟩ := map_get hz
      obtain ⟨acc, h1, rfl⟩ := q.at_
      refine ⟨rfl, _, rfl, t, y, rfl, hzt, pieces_small hM y (List.mem_of_getElem? hy), q.app Kp.refl h1 ?_ ?_⟩
      · rw [List.length_map, List.length_map, List.length_take]
        exact small (by omega)
      · rw [take_snoc hy, List.map_append, List.map_append]
        rfl
    · obtain ⟨acc, h1, rfl⟩ := q.at_
      rw [List.length_map, paired_len hts, List.length_map, List.take_length] at h1
      refine ⟨_, D, (Vabita.pieces p).map fun y => (⟨(Vabita.showPiece y).toArray⟩ : Str), rfl, rfl, .inl (SqL.of h1), ?_, ?_⟩
      · have e1 : (Str.ofString " ").length = 1 := by decide +kernel
        rw [e1, List.length_map]
        have : ∀ l : List Vabita.Piece, (∀ x ∈ l, Small x) → ((l.map fun y => (⟨(Vabita.showPiece y).toArray⟩ : Str)).map (·.length)).sum ≤ 30 * l.length := fun l => by
          induction l with
          | nil => intro _; simp
          | cons c r ih =>
            intro h
            rw [List.map_cons, List.map_cons, List.sum_cons, List.length_cons]
            have h1 := ih fun x hx => h x (by simp [hx])
            have h2 := show_len (h c (by simp))
            have h3 : (⟨(Vabita.showPiece c).toArray⟩ : Str).length = (Vabita.showPiece c).length := by rw [TL.len_tl, TL.tl_mk]
            omega
        have := this _ (pieces_small hM)
        omega
      · have z := k _ (k1.trans q.kp) q.tab
        have e1 : Txt.join (Str.ofString " ") ((Vabita.pieces p).map fun y => (⟨(Vabita.showPiece y).toArray⟩ : Str)) = ⟨(Vabita.blanks ((Vabita.pieces p).map Vabita.showPiece)).toArray⟩ := TL.ext_tl (by
          rw [TL.join_eq, TL.tl_join, TL.tl_mk, ← joinL_blanks, List.map_map]
          rfl)
        rw [← e1] at z
        exact z
end
end Ms
end

/-! text M1 -/
section
set_option linter.all false
set_option maxRecDepth 100000
/-! the mathematics: bounds of pieces -/
namespace Ms
open Vabita
/-! ### sets by their bounds -/
theorem pw_sort (l : List Pc) : (l.mergeSort leB).Pairwise (fun x y => x.1 ≤ y.1) := by
  have := List.pairwise_mergeSort (le := leB) (fun a b c h1 h2 => by
    unfold leB at *
    simp at *
    omega) (fun a b => by
    unfold leB
    simp
    omega) l
  refine this.imp fun {a b} h => ?_
  unfold leB at h
  simpa using h
theorem any_sort (l : List Pc) (f : Pc → Bool) : (l.mergeSort leB).any f = l.any f := by
  rw [Bool.eq_iff_iff, List.any_eq_true, List.any_eq_true]
  simp [List.mem_mergeSort]
theorem bounds_ok {l : List Pc} (hf : ∀ x ∈ l, Full x) : IncI (boundsI l) ∧ ∀ t, hasI (boundsI l) t = l.any (inP · t) := by
  obtain ⟨h1, h2⟩ := join_ok (pw_sort l) (fun x hx => hf x (List.mem_mergeSort.mp hx))
  refine ⟨h1, fun t => ?_⟩
  rw [← any_sort]
  exact h2 t
/-- begins and ends come from the pieces -/
theorem jStep_mem {f : List Pc} {x : Pc} {S : Int → Prop} (hf : ∀ b ∈ bOf f, S b) (hx : S x.1 ∧ ∀ e, x.2 = some e → S e) : ∀ b ∈ bOf (jStep f x), S b := by
  rcases List.eq_nil_or_concat f with rfl | ⟨g, y, rfl⟩
  · intro b hb
    rw [jStep_nil, mem_bOf] at hb
    obtain ⟨z, hz, h⟩ := hb
    simp at hz
    subst hz
    rcases h with rfl | h
    · exact hx.1
    · exact hx.2 b h
  · rw [List.concat_eq_append] at hf ⊢
    rw [jStep_snoc]
    have hg : ∀ b ∈ bOf g, S b := fun b hb => hf b (by rw [bOf_append]; simp [hb])
    have hy : S y.1 ∧ ∀ e, y.2 = some e → S e := by
      constructor
      · exact hf y.1 (by rw [mem_bOf]; exact ⟨y, by simp, .inl rfl⟩)
      · intro e he
        exact hf e (by rw [mem_bOf]; exact ⟨y, by simp, .inr he⟩)
    have app : ∀ (z : Pc) (f : List Pc), (∀ b ∈ bOf f, S b) → (S z.1 ∧ ∀ e, z.2 = some e → S e) → ∀ b ∈ bOf (f ++ [z]), S b := fun z f h1 h2 b hb => by
      rw [bOf_append, List.mem_append] at hb
      rcases hb with hb | hb
      · exact h1 b hb
      · rw [mem_bOf] at hb
        obtain ⟨v, hv, h⟩ := hb
        simp at hv
        subst hv
        rcases h with rfl | h
        · exact h2.1
        · exact h2.2 b h
    split
    · refine app _ g hg ⟨hy.1, fun e he => ?_⟩
      show S e
      cases h1 : y.2 with
      | none =>
        simp only at he
        rw [h1] at he
        cases h2 : x.2 <;> rw [h2] at he <;> cases he
      | some a =>
        simp only at he
        rw [h1] at he
        cases h2 : x.2 with
        | none => rw [h2] at he; cases he
        | some c =>
          rw [h2] at he
          simp only [laterE, Option.some.injEq] at he
          split at he
          · exact he ▸ hx.2 c h2
          · exact he ▸ hy.2 a h1
    · exact app x (g ++ [y]) (app y g hg hy) hx
theorem join_mem {S : Int → Prop} : ∀ (l f : List Pc), (∀ b ∈ bOf f, S b) → (∀ x ∈ l, S x.1 ∧ ∀ e, x.2 = some e → S e) → ∀ b ∈ bOf (l.foldl jStep f), S b
  | [], f, hf, _ => hf
  | x :: r, f, hf, h => join_mem r (jStep f x) (jStep_mem hf (h x (by simp))) fun y hy => h y (by simp [hy])
theorem bounds_mem {l : List Pc} {S : Int → Prop} (h : ∀ x ∈ l, S x.1 ∧ ∀ e, x.2 = some e → S e) : ∀ b ∈ boundsI l, S b :=
  join_mem _ [] (fun b hb => by simp [bOf] at hb) fun x hx => h x (List.mem_mergeSort.mp hx)
theorem nonneg_of {s : List Int} (hs : IncI s) (h : ∀ t, t < 0 → hasI s t = false) : ∀ b ∈ s, 0 ≤ b := by
  cases s with
  | nil => intro b hb; simp at hb
  | cons a r =>
    have ha : 0 ≤ a := by
      by_cases c : 0 ≤ a
      · exact c
      · have := h a (by omega)
        rw [hasI_cons, if_pos (Int.le_refl a), hasI_out fun b hb => List.rel_of_pairwise_cons hs hb] at this
        cases this
    intro b hb
    rcases List.mem_cons.mp hb with rfl | hb
    · exact ha
    · have := List.rel_of_pairwise_cons hs hb
      omega
/-- a list of bounds is the normal form of what it tells -/
theorem normal_bounds {p : Nat → Bool} {l : List Nat} {s : List Int} (hs : IncI s) (h0 : ∀ b ∈ s, 0 ≤ b) (hh : ∀ t : Nat, hasI s t = p t) (hl : ∀ b ∈ s, b.toNat ∈ l) : s = up (normal p l) := by
  refine normal_is (fun b hb => ?_) hs h0 hh
  by_cases c : (b : Int) ∈ s
  · have := hl _ c
    simpa using this
  · exfalso
    unfold changes at hb
    have key : ∀ t u : Int, u = t + 1 → u ∉ s → hasI s t = hasI s u := fun t u e hu => hasI_same fun x hx => by
      have : x ≠ u := fun z => hu (z ▸ hx)
      omega
    split at hb
    · next h =>
      subst h
      have h1 := key (-1) 0 rfl c
      rw [hasI_out fun x hx => by have := h0 x hx; omega] at h1
      have h2 := hh 0
      rw [show ((0 : Nat) : Int) = 0 from rfl, ← h1] at h2
      rw [← h2] at hb
      cases hb
    · have h1 := key (((b - 1 : Nat) : Int)) (b : Int) (by omega) c
      rw [hh, hh] at h1
      rw [h1] at hb
      simp at hb
/-! ### the pieces of a set -/
theorem bOf_pcs : ∀ ns : List Int, bOf (pcs ns) = ns
  | [] => rfl
  | [a] => rfl
  | a :: b :: r => by
    rw [pcs, bOf_cons, bOf_pcs r]
    rfl
theorem pcs_ge : ∀ {ns : List Int} {m : Int}, (∀ b ∈ ns, m < b) → ∀ x ∈ pcs ns, m < x.1
  | [], m, _, x, h => by simp [pcs] at h
  | [a], m, hb, x, h => by simp [pcs] at h; subst h; exact hb a (by simp)
  | a :: b :: r, m, hb, x, h => by
    rcases List.mem_cons.mp h with rfl | h
    · exact hb a (by simp)
    · exact pcs_ge (fun c hc => hb c (by simp [hc])) x h
theorem pcs_chain : ∀ {ns : List Int}, IncI ns → Chain (pcs ns)
  | [], _ => ⟨.nil, fun x h => by simp [pcs] at h⟩
  | [a], _ => ⟨by simp [pcs], fun x h => by simp [pcs] at h; subst h; intro e he; cases he⟩
  | a :: b :: r, h => by
    have ih := pcs_chain (h.of_cons.of_cons)
    refine ⟨List.pairwise_cons.mpr ⟨fun y hy => ⟨b, rfl, ?_⟩, ih.bef⟩, fun x hx => ?_⟩
    · exact pcs_ge (fun c hc => List.rel_of_pairwise_cons h.of_cons hc) y hy
    · rcases List.mem_cons.mp hx with rfl | hx
      · intro e he
        cases he
        exact List.rel_of_pairwise_cons h (by simp)
      · exact ih.full x hx
theorem has_pcs {ns : List Int} (h : IncI ns) (t : Int) : hasI ns t = (pcs ns).any (inP · t) := by
  have := (pcs_chain h).ok.2 t
  rw [bOf_pcs] at this
  exact this
theorem pcs_mem {ns : List Int} {x : Pc} (h : x ∈ pcs ns) : x.1 ∈ ns ∧ ∀ e, x.2 = some e → e ∈ ns := by
  have hb : ∀ b, b = x.1 ∨ x.2 = some b → b ∈ bOf (pcs ns) := fun b hb => mem_bOf.mpr ⟨x, h, hb⟩
  rw [bOf_pcs] at hb
  exact ⟨hb _ (.inl rfl), fun e he => hb e (.inr he)⟩
end Ms
end

/-! text M2 -/
section
set_option linter.all false
set_option maxRecDepth 100000
namespace Ms
open Vabita
theorem pc_facts : ∀ {p : List Nat}, IncN p → ∀ {y : Piece}, y ∈ pieces p → y.1 ∈ p ∧ ∀ e, y.2 = some e → e ∈ p ∧ y.1 < e
  | [], _, y, h => by simp [pieces] at h
  | [a], _, y, h => by
    simp [pieces] at h
    subst h
    exact ⟨by simp, fun e he => by cases he⟩
  | a :: b :: r, hi, y, h => by
    rcases List.mem_cons.mp h with rfl | h
    · exact ⟨by simp, fun e he => by cases he; exact ⟨by simp, List.rel_of_pairwise_cons hi (by simp)⟩⟩
    · obtain ⟨h1, h2⟩ := pc_facts (hi.of_cons.of_cons) h
      exact ⟨by simp [h1], fun e he => ⟨by simp [(h2 e he).1], (h2 e he).2⟩⟩
theorem inP_cast (y : Piece) (t : Nat) : inP (castP y) t = true ↔ y.1 ≤ t ∧ ∀ e, y.2 = some e → t < e := by
  obtain ⟨a, e⟩ := y
  unfold inP castP
  cases e with
  | none => simp [endGt]
  | some e => simp [endGt]
theorem has_iff {p : List Nat} (hp : IncN p) (t : Nat) : has p t = true ↔ ∃ y ∈ pieces p, y.1 ≤ t ∧ ∀ e, y.2 = some e → t < e := by
  rw [← has_cast, has_pcs (inc_cast hp), pcs_up, List.any_map, List.any_eq_true]
  constructor
  · rintro ⟨y, hy, h⟩
    exact ⟨y, hy, (inP_cast y t).mp h⟩
  · rintro ⟨y, hy, h⟩
    exact ⟨y, hy, (inP_cast y t).mpr h⟩
/-- bounds made of pieces -/
theorem bnd_normal {l : List Pc} {p : Nat → Bool} {pts : List Nat} (hf : ∀ x ∈ l, Full x ∧ 0 ≤ x.1) (hh : ∀ t : Nat, l.any (inP · t) = p t) (hm : ∀ x ∈ l, x.1.toNat ∈ pts ∧ ∀ e, x.2 = some e → e.toNat ∈ pts) : boundsI l = up (normal p pts) := by
  obtain ⟨h1, h2⟩ := bounds_ok fun x hx => (hf x hx).1
  refine normal_bounds h1 (nonneg_of h1 fun t ht => ?_) (fun t => (h2 t).trans (hh t)) (bounds_mem hm)
  rw [h2, List.any_eq_false]
  intro x hx
  have := (hf x hx).2
  unfold inP
  simp
  intro h
  omega
theorem m_other {p : Bounds} (hp : IncN p) {marks : List Int} (hm : Marks (up p) [0] marks) : combOf (op2 W4.odd.op (up p) [0]) marks = up (other p) := by
  obtain ⟨h1, h2⟩ := comb2_ok (op := W4.odd.op) rfl hm
  refine normal_bounds h1 (nonneg_of h1 fun t ht => ?_) (fun t => ?_) fun b hb => ?_
  · rw [h2, hasI_neg ht, hasI_out fun b hb => by simp at hb; omega]
    rfl
  · rw [h2, has_cast]
    have : hasI [0] (t : Int) = true := by
      rw [hasI_all fun b hb => by simp at hb; omega]
      rfl
    rw [this]
    show (has p t != true) = !has p t
    cases has p t <;> rfl
  · have := (hm.mem b).mp (comb_mem b hb)
    rcases List.mem_append.mp this with h | h
    · obtain ⟨n, hn, rfl⟩ := List.mem_map.mp h
      simp [hn]
    · simp at h
      simp [h]
theorem hasI_shift (s : List Int) (n t : Int) : hasI (s.map (· + n)) t = hasI s (t - n) := by
  induction s with
  | nil => rfl
  | cons a r ih =>
    rw [List.map_cons, hasI_cons, hasI_cons, ih]
    by_cases c : a ≤ t - n
    · rw [if_pos c, if_pos (by omega)]
    · rw [if_neg c, if_neg (by omega)]
theorem m_later {p : Bounds} (hp : IncN p) (n : Nat) : (up p).map (· + (n : Int)) = up (later p n) := by
  refine normal_bounds ?_ (fun b hb => ?_) (fun t => ?_) fun b hb => ?_
  · exact List.Pairwise.map _ (fun a b h => by omega) (inc_cast hp)
  · obtain ⟨a, ha, rfl⟩ := List.mem_map.mp hb
    obtain ⟨m, _, rfl⟩ := List.mem_map.mp ha
    omega
  · rw [hasI_shift]
    by_cases c : n ≤ t
    · rw [show ((t : Int) - (n : Int)) = ((t - n : Nat) : Int) by omega, has_cast]
      simp [c]
    · rw [hasI_neg (by omega)]
      simp [c]
  · obtain ⟨a, ha, rfl⟩ := List.mem_map.mp hb
    obtain ⟨m, hm, rfl⟩ := List.mem_map.mp ha
    exact List.mem_map.mpr ⟨m, hm, by omega⟩
/-- pieces through a map -/
theorem fm_mem {p : List Nat} {f : Pc → Option Pc} {x : Pc} : x ∈ (pcs (up p)).filterMap f ↔ ∃ y ∈ pieces p, f (castP y) = some x := by
  rw [pcs_up, List.mem_filterMap]
  constructor
  · rintro ⟨z, hz, h⟩
    obtain ⟨y, hy, rfl⟩ := List.mem_map.mp hz
    exact ⟨y, hy, h⟩
  · rintro ⟨y, hy, h⟩
    exact ⟨_, List.mem_map.mpr ⟨y, hy, rfl⟩, h⟩
theorem fm_any {p : List Nat} {f : Pc → Option Pc} {t : Int} : ((pcs (up p)).filterMap f).any (inP · t) = true ↔ ∃ y ∈ pieces p, ∃ x, f (castP y) = some x ∧ inP x t = true := by
  rw [List.any_eq_true]
  constructor
  · rintro ⟨x, hx, h⟩
    obtain ⟨y, hy, e⟩ := fm_mem.mp hx
    exact ⟨y, hy, x, e, h⟩
  · rintro ⟨y, hy, x, e, h⟩
    exact ⟨x, fm_mem.mpr ⟨y, hy, e⟩, h⟩
theorem inP_iff (x : Pc) (t : Int) : inP x t = true ↔ x.1 ≤ t ∧ ∀ e, x.2 = some e → t < e := by
  obtain ⟨a, e⟩ := x
  unfold inP
  cases e with
  | none => simp [endGt]
  | some e => simp [endGt]
theorem endGt_iff (e : Option Int) (t : Int) : endGt e t = true ↔ ∀ d, e = some d → t < d := by
  cases e with
  | none => simp [endGt]
  | some e => simp [endGt]
theorem max0_is (z : Int) : max0 z = max z 0 := by
  unfold max0
  split <;> omega
theorem m_earlier {p : Bounds} (hp : IncN p) (n : Nat) : earlierI (up p) (n : Int) = up (earlier p n) := by
  refine bnd_normal (fun x hx => ?_) (fun t => ?_) fun x hx => ?_
  · obtain ⟨⟨a, e⟩, hy, h⟩ := fm_mem.mp hx
    obtain ⟨_, f2⟩ := pc_facts hp hy
    unfold earlierP at h
    split at h
    · next hg =>
      cases h
      rw [max0_is]
      refine ⟨fun d hd => ?_, by show (0 : Int) ≤ max _ 0; omega⟩
      cases e with
      | none => cases hd
      | some e =>
        have h1 := (f2 e rfl).2
        have h2 := (endGt_iff _ _).mp hg _ rfl
        simp [shiftE, castP] at hd h2 ⊢
        omega
    · cases h
  · rw [Bool.eq_iff_iff, fm_any, has_iff hp]
    constructor
    · rintro ⟨⟨a, e⟩, hy, x, h, hi⟩
      unfold earlierP at h
      split at h
      · cases h
        rw [inP_iff, max0_is] at hi
        refine ⟨_, hy, ?_, fun d hd => ?_⟩
        · have := hi.1
          simp [castP] at this ⊢
          omega
        · have hd' : e = some d := hd
          subst hd'
          have := hi.2 ((d : Int) + -(n : Int)) rfl
          omega
      · cases h
    · rintro ⟨⟨a, e⟩, hy, h1, h2⟩
      have hg : endGt (castP (a, e)).2 (n : Int) = true := by
        rw [endGt_iff]
        intro d hd
        cases e with
        | none => cases hd
        | some e =>
          cases hd
          have := h2 e rfl
          show (n : Int) < (e : Int)
          omega
      refine ⟨_, hy, _, if_pos hg, ?_⟩
      rw [inP_iff, max0_is]
      refine ⟨?_, fun d hd => ?_⟩
      · have : a ≤ t + n := h1
        simp [castP]
        omega
      · cases e with
        | none => cases hd
        | some e =>
          cases hd
          have := h2 e rfl
          simp
          omega
  · obtain ⟨⟨a, e⟩, hy, h⟩ := fm_mem.mp hx
    obtain ⟨f1, f2⟩ := pc_facts hp hy
    unfold earlierP at h
    split at h
    · next hg =>
      cases h
      rw [max0_is]
      constructor
      · by_cases c : n ≤ a
        · refine List.mem_cons_of_mem _ (List.mem_map.mpr ⟨a, f1, ?_⟩)
          simp [castP]
          omega
        · have : (max ((castP (a, e)).1 - (n : Int)) 0).toNat = 0 := by
            simp [castP]
            omega
          show (max ((castP (a, e)).1 - (n : Int)) 0).toNat ∈ _
          rw [this]
          simp
      · intro d hd
        cases e with
        | none => cases hd
        | some e =>
          cases hd
          refine List.mem_cons_of_mem _ (List.mem_map.mpr ⟨e, (f2 e rfl).1, ?_⟩)
          have : (n : Int) < (e : Int) := (endGt_iff _ _).mp hg _ rfl
          show e - n = ((e : Int) + -(n : Int)).toNat
          omega
    · cases h
end Ms
end

/-! text M3 -/
section
set_option linter.all false
set_option maxRecDepth 100000
namespace Ms
open Vabita
theorem has_at {p : List Nat} (hp : IncN p) {y : Piece} (hy : y ∈ pieces p) : has p y.1 = true := (has_iff hp _).mpr ⟨y, hy, Nat.le_refl _, fun e he => ((pc_facts hp hy).2 e he).2⟩
theorem has_before {p : List Nat} (hp : IncN p) {y : Piece} (hy : y ∈ pieces p) (h0 : 0 < y.1) : has p (y.1 - 1) = false := by
  have h := has_step hp (y.1 - 1)
  rw [show y.1 - 1 + 1 = y.1 by omega, has_at hp hy, decide_eq_true (pc_facts hp hy).1] at h
  cases e : has p (y.1 - 1) with
  | false => rfl
  | true => rw [e] at h; cases h
theorem someIn_iff {p : List Nat} (hp : IncN p) (a b : Nat) : someIn p a b = true ↔ ∃ u, a ≤ u ∧ u < b ∧ has p u = true := by
  unfold someIn
  rw [Bool.and_eq_true, Bool.or_eq_true, List.any_eq_true, decide_eq_true_iff]
  constructor
  · rintro ⟨h1, h2 | ⟨x, hx, h2⟩⟩
    · exact ⟨a, Nat.le_refl _, h1, h2⟩
    · rw [Bool.and_eq_true, Bool.and_eq_true, decide_eq_true_iff, decide_eq_true_iff] at h2
      exact ⟨x, by omega, h2.2.1, h2.2.2⟩
  · rintro ⟨u, h1, h2, h3⟩
    refine ⟨by omega, ?_⟩
    obtain ⟨y, hy, h4, h5⟩ := (has_iff hp u).mp h3
    by_cases c : y.1 ≤ a
    · exact .inl ((has_iff hp a).mpr ⟨y, hy, c, fun e he => by have := h5 e he; omega⟩)
    · refine .inr ⟨y.1, (pc_facts hp hy).1, ?_⟩
      rw [Bool.and_eq_true, Bool.and_eq_true, decide_eq_true_iff, decide_eq_true_iff]
      exact ⟨by omega, by omega, has_at hp hy⟩
theorem m_recent {p : Bounds} (hp : IncN p) (n : Nat) : recentI (up p) (n : Int) = up (recent p n) := by
  refine bnd_normal (fun x hx => ?_) (fun t => ?_) fun x hx => ?_
  · obtain ⟨⟨a, e⟩, hy, h⟩ := fm_mem.mp hx
    obtain ⟨_, f2⟩ := pc_facts hp hy
    cases h
    refine ⟨fun d hd => ?_, by show (0 : Int) ≤ (a : Int); omega⟩
    cases e with
    | none => cases hd
    | some e =>
      cases hd
      have := (f2 e rfl).2
      show (a : Int) < (e : Int) + (n : Int)
      omega
  · rw [Bool.eq_iff_iff, fm_any, someIn_iff hp]
    constructor
    · rintro ⟨⟨a, e⟩, hy, x, h, hi⟩
      obtain ⟨f1, f2⟩ := pc_facts hp hy
      cases h
      rw [inP_iff] at hi
      have h1 : (a : Int) ≤ (t : Int) := hi.1
      refine ⟨max a (t - n), by omega, by omega, (has_iff hp _).mpr ⟨_, hy, by show a ≤ max a (t - n); omega, fun d hd => ?_⟩⟩
      have hd' : e = some d := hd
      subst hd'
      have h2 : (t : Int) < (d : Int) + (n : Int) := hi.2 _ rfl
      have h3 := (f2 d rfl).2
      have h3' : a < d := h3
      omega
    · rintro ⟨u, h1, h2, h3⟩
      obtain ⟨⟨a, e⟩, hy, h4, h5⟩ := (has_iff hp u).mp h3
      have h4' : a ≤ u := h4
      refine ⟨_, hy, _, rfl, ?_⟩
      rw [inP_iff]
      refine ⟨by show (a : Int) ≤ (t : Int); omega, fun d hd => ?_⟩
      cases e with
      | none => cases hd
      | some e =>
        cases hd
        have := h5 e rfl
        show (t : Int) < (e : Int) + (n : Int)
        omega
  · obtain ⟨⟨a, e⟩, hy, h⟩ := fm_mem.mp hx
    obtain ⟨f1, f2⟩ := pc_facts hp hy
    cases h
    refine ⟨List.mem_append_left _ (by show ((a : Int)).toNat ∈ p; simpa using f1), fun d hd => ?_⟩
    cases e with
    | none => cases hd
    | some e =>
      cases hd
      refine List.mem_append_right _ (List.mem_map.mpr ⟨e, (f2 e rfl).1, ?_⟩)
      show e + n = ((e : Int) + (n : Int)).toNat
      omega
theorem m_soon {p : Bounds} (hp : IncN p) (n : Nat) : soonI (up p) (n : Int) = up (soon p n) := by
  refine bnd_normal (fun x hx => ?_) (fun t => ?_) fun x hx => ?_
  · obtain ⟨⟨a, e⟩, hy, h⟩ := fm_mem.mp hx
    obtain ⟨_, f2⟩ := pc_facts hp hy
    cases h
    refine ⟨fun d hd => ?_, by show (0 : Int) ≤ max0 _; rw [max0_is]; omega⟩
    cases e with
    | none => cases hd
    | some e =>
      cases hd
      have h1 : a < e := (f2 e rfl).2
      show max0 ((a : Int) - (n : Int)) < (e : Int)
      rw [max0_is]
      omega
  · rw [Bool.eq_iff_iff, fm_any, someIn_iff hp]
    constructor
    · rintro ⟨⟨a, e⟩, hy, x, h, hi⟩
      obtain ⟨f1, f2⟩ := pc_facts hp hy
      cases h
      rw [inP_iff] at hi
      have h1 : max0 ((a : Int) - (n : Int)) ≤ (t : Int) := hi.1
      rw [max0_is] at h1
      refine ⟨max a t, by omega, by omega, (has_iff hp _).mpr ⟨_, hy, by show a ≤ max a t; omega, fun d hd => ?_⟩⟩
      have hd' : e = some d := hd
      subst hd'
      have h2 : (t : Int) < (d : Int) := hi.2 _ rfl
      have h3 : a < d := (f2 d rfl).2
      omega
    · rintro ⟨u, h1, h2, h3⟩
      obtain ⟨⟨a, e⟩, hy, h4, h5⟩ := (has_iff hp u).mp h3
      have h4' : a ≤ u := h4
      refine ⟨_, hy, _, rfl, ?_⟩
      rw [inP_iff]
      refine ⟨by show max0 ((a : Int) - (n : Int)) ≤ (t : Int); rw [max0_is]; omega, fun d hd => ?_⟩
      cases e with
      | none => cases hd
      | some e =>
        cases hd
        have := h5 e rfl
        show (t : Int) < (e : Int)
        omega
  · obtain ⟨⟨a, e⟩, hy, h⟩ := fm_mem.mp hx
    obtain ⟨f1, f2⟩ := pc_facts hp hy
    cases h
    constructor
    · show (max0 ((a : Int) - (n : Int))).toNat ∈ _
      rw [max0_is]
      by_cases c : n ≤ a
      · refine List.mem_cons_of_mem _ (List.mem_append_right _ (List.mem_map.mpr ⟨a, f1, ?_⟩))
        show a - n = _
        omega
      · rw [show (max ((a : Int) - (n : Int)) 0).toNat = 0 by omega]
        simp
    · intro d hd
      cases e with
      | none => cases hd
      | some e =>
        cases hd
        refine List.mem_cons_of_mem _ (List.mem_append_left _ ?_)
        show ((e : Int)).toNat ∈ p
        simpa using (f2 e rfl).1
theorem has_other {p : List Nat} (hp : IncN p) (t : Nat) : has (other p) t = !has p t := by
  unfold other
  refine normal_has (p := fun t => !has p t) (fun b hb => ?_) t
  unfold changes at hb
  split at hb
  · next h => simp [h]
  · next h =>
    have h1 := has_step hp (b - 1)
    rw [show b - 1 + 1 = b by omega] at h1
    by_cases c : b ∈ p
    · simp [c]
    · rw [decide_eq_false c, Bool.bne_false] at h1
      simp only at hb
      rw [h1] at hb
      simp at hb
theorem m_steady {p : Bounds} (hp : IncN p) (n : Nat) : steadyI (up p) (n : Int) = up (steady p n) := by
  have ho : IncN (other p) := inc_normal _ _
  have all_iff : ∀ t : Nat, (!someIn (other p) (t - n) (t + 1)) = true ↔ ∀ u, t - n ≤ u → u ≤ t → has p u = true := fun t => by
    rw [Bool.not_eq_true', Bool.eq_false_iff, Ne, someIn_iff ho]
    constructor
    · intro h u h1 h2
      cases e : has p u with
      | true => rfl
      | false => exact absurd ⟨u, h1, by omega, by rw [has_other hp, e]; rfl⟩ h
    · rintro h ⟨u, h1, h2, h3⟩
      rw [has_other hp, h u h1 (by omega)] at h3
      cases h3
  have bS : ∀ a : Nat, beginS (a : Int) (n : Int) = ((if a = 0 then 0 else a + n : Nat) : Int) := fun a => by
    unfold beginS
    by_cases c : a = 0
    · subst c; simp
    · rw [if_neg (by omega), if_neg c]
      omega
  refine bnd_normal (fun x hx => ?_) (fun t => ?_) fun x hx => ?_
  · obtain ⟨⟨a, e⟩, hy, h⟩ := fm_mem.mp hx
    unfold steadyP at h
    split at h
    · next hg =>
      cases h
      refine ⟨fun d hd => (endGt_iff _ _).mp hg d hd, ?_⟩
      show (0 : Int) ≤ beginS (a : Int) (n : Int)
      rw [bS]
      omega
    · cases h
  · rw [Bool.eq_iff_iff, fm_any, all_iff]
    constructor
    · rintro ⟨⟨a, e⟩, hy, x, h, hi⟩ u hu1 hu2
      unfold steadyP at h
      split at h
      · cases h
        rw [inP_iff] at hi
        have h1 : beginS (a : Int) (n : Int) ≤ (t : Int) := hi.1
        rw [bS] at h1
        refine (has_iff hp u).mpr ⟨_, hy, ?_, fun d hd => ?_⟩
        · show a ≤ u
          split at h1 <;> omega
        · have hd' : e = some d := hd
          subst hd'
          have h2 : (t : Int) < (d : Int) := hi.2 _ rfl
          omega
      · cases h
    · intro h
      obtain ⟨⟨a, e⟩, hy, h1, h2⟩ := (has_iff hp t).mp (h t (by omega) (Nat.le_refl _))
      have h1' : a ≤ t := h1
      have hb : (if a = 0 then 0 else a + n) ≤ t := by
        split
        · omega
        · next c =>
          have hb := has_before hp hy (by show 0 < a; omega)
          have hb' : has p (a - 1) = false := hb
          by_cases c2 : t - n ≤ a - 1
          · rw [h (a - 1) c2 (by omega)] at hb'
            cases hb'
          · omega
      have hg : endGt (castP (a, e)).2 (beginS (a : Int) (n : Int)) = true := by
        rw [endGt_iff]
        intro d hd
        cases e with
        | none => cases hd
        | some e =>
          cases hd
          have := h2 e rfl
          rw [bS]
          show _ < (e : Int)
          omega
      refine ⟨_, hy, _, if_pos hg, ?_⟩
      rw [inP_iff]
      refine ⟨?_, fun d hd => ?_⟩
      · show beginS (a : Int) (n : Int) ≤ (t : Int)
        rw [bS]
        omega
      · cases e with
        | none => cases hd
        | some e =>
          cases hd
          have := h2 e rfl
          show (t : Int) < (e : Int)
          omega
  · obtain ⟨⟨a, e⟩, hy, h⟩ := fm_mem.mp hx
    obtain ⟨f1, f2⟩ := pc_facts hp hy
    unfold steadyP at h
    split at h
    · cases h
      constructor
      · show (beginS (a : Int) (n : Int)).toNat ∈ _
        rw [bS, Int.toNat_natCast]
        split
        · simp
        · exact List.mem_cons_of_mem _ (List.mem_append_right _ (List.mem_map.mpr ⟨a, f1, rfl⟩))
      · intro d hd
        cases e with
        | none => cases hd
        | some e =>
          cases hd
          refine List.mem_cons_of_mem _ (List.mem_append_left _ ?_)
          show ((e : Int)).toNat ∈ p
          simpa using (f2 e rfl).1
    · cases h
end Ms
end

/-! text M4 -/
section
set_option linter.all false
set_option maxRecDepth 100000
namespace Ms
open Vabita
theorem bounds_chain {l : List Pc} (h : Chain l) : boundsI l = bOf l := by
  obtain ⟨h1, h2⟩ := h.ok
  obtain ⟨h3, h4⟩ := bounds_ok h.full
  exact uniq h3 h1 fun t => by rw [h2, h4]
theorem bOf_cast (l : List Piece) : bOf (l.map castP) = up (ofPieces l) := by
  induction l with
  | nil => rfl
  | cons y r ih =>
    rw [List.map_cons, bOf_cons, ih]
    obtain ⟨a, e⟩ := y
    cases e <;> rfl
theorem Chain.filter {l : List Pc} (h : Chain l) (f : Pc → Bool) : Chain (l.filter f) := ⟨h.bef.filter f, fun x hx => h.full x (List.mem_filter.mp hx).1⟩
theorem filter_cast (l : List Piece) (f : Piece → Bool) (g : Pc → Bool) (h : ∀ y ∈ l, g (castP y) = f y) : (l.map castP).filter g = (l.filter f).map castP := by
  induction l with
  | nil => rfl
  | cons y r ih =>
    rw [List.map_cons, List.filter_cons, List.filter_cons, h y (by simp), ih fun z hz => h z (by simp [hz])]
    split <;> rfl
theorem fm_filter (l : List Pc) (f : Pc → Option Pc) (g : Pc → Bool) (h : ∀ x ∈ l, f x = if g x = true then some x else none) : l.filterMap f = l.filter g := by
  induction l with
  | nil => rfl
  | cons x r ih =>
    rw [List.filterMap_cons, List.filter_cons, h x (by simp), ih fun z hz => h z (by simp [hz])]
    by_cases c : g x = true
    · simp [c]
    · simp [c]
theorem last_cast {p : List Nat} (hp : IncN p) (n : Nat) {y : Piece} (hy : y ∈ pieces p) : isLast (n : Int) (castP y) = atLeast n y := by
  obtain ⟨f1, f2⟩ := pc_facts hp hy
  obtain ⟨a, e⟩ := y
  cases e with
  | none => rfl
  | some e =>
    have h : a < e := (f2 e rfl).2
    show decide ((n : Int) ≤ (e : Int) - (a : Int)) = decide (n ≤ e - a)
    rw [decide_eq_decide]
    omega
theorem m_lasting {p : Bounds} (hp : IncN p) (n : Nat) : lastingI (up p) (n : Int) = up (lasting p n) := by
  have hc := pcs_chain (inc_cast hp)
  unfold lastingI lasting
  rw [fm_filter _ (lastP (n : Int)) (isLast (n : Int)) fun x _ => rfl, bounds_chain (hc.filter _), pcs_up, filter_cast _ (atLeast n) _ fun y hy => last_cast hp n hy, bOf_cast]
theorem inc_up {s : List Nat} (h : IncI (up s)) : IncN s := by
  unfold up at h
  have := List.pairwise_map.mp h
  exact this.imp fun {a b} h => by omega
theorem sub_ok {l : List Piece} (h : Chain (l.map castP)) : IncN (ofPieces l) ∧ ∀ t : Nat, has (ofPieces l) t = (l.map castP).any (inP · t) := by
  obtain ⟨h1, h2⟩ := h.ok
  rw [bOf_cast] at h1 h2
  exact ⟨inc_up h1, fun t => by rw [← has_cast]; exact h2 t⟩
theorem mem_ofPieces {l : List Piece} {b : Nat} : b ∈ ofPieces l ↔ ∃ x ∈ l, b = x.1 ∨ x.2 = some b := by
  unfold ofPieces
  rw [List.mem_flatMap]
  constructor
  · rintro ⟨x, hx, h⟩
    refine ⟨x, hx, ?_⟩
    rcases List.mem_cons.mp h with h | h
    · exact .inl h
    · exact .inr (by simpa using h)
  · rintro ⟨x, hx, h⟩
    refine ⟨x, hx, ?_⟩
    rcases h with h | h
    · simp [h]
    · simp [h]
theorem m_fill {p : Bounds} (hp : IncN p) (n : Nat) : boundsI (pcs (up p) ++ (pcs (up (gaps p))).filterMap (fillP (n : Int))) = up (fill p n) := by
  have hg : IncN (gaps p) := inc_normal _ _
  have hc := pcs_chain (inc_cast hg)
  have e1 : (pcs (up (gaps p))).filterMap (fillP (n : Int)) = ((pieces (gaps p)).filter fun x => !atLeast (n + 1) x).map castP := by
    rw [fm_filter _ _ (fun x => match x.2 with | some e => decide (e - x.1 ≤ (n : Int)) | none => false) fun x _ => ?_, pcs_up, filter_cast _ (fun x => !atLeast (n + 1) x) _ fun y hy => ?_]
    · obtain ⟨f1, f2⟩ := pc_facts hg hy
      obtain ⟨a, e⟩ := y
      cases e with
      | none => rfl
      | some e =>
        have h : a < e := (f2 e rfl).2
        show decide ((e : Int) - (a : Int) ≤ (n : Int)) = !decide (n + 1 ≤ e - a)
        rw [Bool.eq_iff_iff]
        simp
        omega
    · unfold fillP
      obtain ⟨a, e⟩ := x
      cases e with
      | none => rfl
      | some e => rfl
  rw [e1]
  have hL : Chain (((pieces (gaps p)).filter fun x => !atLeast (n + 1) x).map castP) := by
    rw [pcs_up] at hc
    refine ⟨?_, fun x hx => ?_⟩
    · exact (hc.bef.sublist (List.filter_sublist.map castP))
    · obtain ⟨y, hy, rfl⟩ := List.mem_map.mp hx
      exact hc.full _ (List.mem_map.mpr ⟨y, (List.mem_filter.mp hy).1, rfl⟩)
  obtain ⟨s1, s2⟩ := sub_ok hL
  have hcp := pcs_chain (inc_cast hp)
  unfold fill either
  generalize hLe : ((pieces (gaps p)).filter fun x => !atLeast (n + 1) x) = L at s1 s2 hL
  refine bnd_normal (fun x hx => ?_) (fun t => ?_) fun x hx => ?_
  · rcases List.mem_append.mp hx with h | h
    · refine ⟨hcp.full x h, ?_⟩
      obtain ⟨h1, _⟩ := pcs_mem h
      obtain ⟨m, _, e⟩ := List.mem_map.mp h1
      omega
    · refine ⟨hL.full x h, ?_⟩
      obtain ⟨y, _, rfl⟩ := List.mem_map.mp h
      show (0 : Int) ≤ (y.1 : Int)
      omega
  · rw [List.any_append, s2, ← has_cast p, has_pcs (inc_cast hp)]
  · rcases List.mem_append.mp hx with h | h
    · obtain ⟨h1, h2⟩ := pcs_mem h
      refine ⟨List.mem_append_left _ ?_, fun e he => List.mem_append_left _ ?_⟩
      · obtain ⟨m, hm, e⟩ := List.mem_map.mp h1
        rw [← e]
        simpa using hm
      · obtain ⟨m, hm, e⟩ := List.mem_map.mp (h2 e he)
        rw [← e]
        simpa using hm
    · obtain ⟨y, hy, rfl⟩ := List.mem_map.mp h
      obtain ⟨a, e⟩ := y
      refine ⟨List.mem_append_right _ (mem_ofPieces.mpr ⟨_, hy, .inl ?_⟩), fun d hd => List.mem_append_right _ (mem_ofPieces.mpr ⟨_, hy, .inr ?_⟩)⟩
      · show ((a : Int)).toNat = a
        simp
      · cases e with
        | none => cases hd
        | some e =>
          cases hd
          show some e = some ((e : Int)).toNat
          simp
theorem m_every (a st le c : Nat) (h : 1 ≤ le) : boundsI (everyL (a : Int) (st : Int) (le : Int) c) = up (every a st le c) := by
  have mem : ∀ x, x ∈ everyL (a : Int) (st : Int) (le : Int) c ↔ ∃ i, i < c ∧ x = castP (a + i * st, some (a + i * st + le)) := fun x => by
    unfold everyL
    rw [List.mem_map]
    constructor
    · rintro ⟨i, hi, rfl⟩
      refine ⟨i, List.mem_range.mp hi, ?_⟩
      unfold castP
      simp
    · rintro ⟨i, hi, rfl⟩
      refine ⟨i, List.mem_range.mpr hi, ?_⟩
      unfold castP
      simp
  unfold every
  simp only
  refine bnd_normal (fun x hx => ?_) (fun t => ?_) fun x hx => ?_
  · obtain ⟨i, hi, rfl⟩ := (mem x).mp hx
    refine ⟨fun d hd => ?_, by show (0 : Int) ≤ ((a + i * st : Nat) : Int); omega⟩
    cases hd
    show ((a + i * st : Nat) : Int) < ((a + i * st + le : Nat) : Int)
    omega
  · rw [Bool.eq_iff_iff, List.any_eq_true, List.any_eq_true]
    constructor
    · rintro ⟨x, hx, hi⟩
      obtain ⟨i, hi2, rfl⟩ := (mem x).mp hx
      obtain ⟨h1, h2⟩ := (inP_cast _ t).mp hi
      refine ⟨a + i * st, List.mem_map.mpr ⟨i, List.mem_range.mpr hi2, rfl⟩, ?_⟩
      rw [Bool.and_eq_true, decide_eq_true_iff, decide_eq_true_iff]
      exact ⟨h1, h2 _ rfl⟩
    · rintro ⟨x, hx, hi⟩
      obtain ⟨i, hi2, rfl⟩ := List.mem_map.mp hx
      rw [Bool.and_eq_true, decide_eq_true_iff, decide_eq_true_iff] at hi
      refine ⟨_, (mem _).mpr ⟨i, List.mem_range.mp hi2, rfl⟩, (inP_cast _ t).mpr ⟨hi.1, fun e he => ?_⟩⟩
      cases he
      exact hi.2
  · obtain ⟨i, hi, rfl⟩ := (mem x).mp hx
    have hb : a + i * st ∈ (List.range c).map fun i => a + i * st := List.mem_map.mpr ⟨i, List.mem_range.mpr hi, rfl⟩
    refine ⟨List.mem_append_left _ ?_, fun d hd => List.mem_append_right _ ?_⟩
    · show ((a + i * st : Nat) : Int).toNat ∈ _
      rw [Int.toNat_natCast]
      exact hb
    · cases hd
      show ((a + i * st + le : Nat) : Int).toNat ∈ _
      rw [Int.toNat_natCast]
      exact List.mem_map.mpr ⟨_, hb, rfl⟩
theorem piece_full {w : List Nat} {x : Piece} (h : pieceOf w = some x) : ∀ e, x.2 = some e → x.1 < e := by
  rw [← piece_par] at h
  unfold pieceT at h
  intro e he
  split at h
  · cases hn : numberOf w with
    | none => rw [hn] at h; cases h
    | some a =>
      rw [hn] at h
      cases h
      cases he
      show a < a + 1
      omega
  · split at h
    · cases h
    · split at h
      · cases h
        cases he
      · split at h
        · cases h
        · split at h
          · cases h
          · cases h
            cases he
            show _ < _
            omega
theorem pieces_full : ∀ {ws : List (List Nat)} {l : List Piece}, piecesOf ws = some l → ∀ x ∈ l, ∀ e, x.2 = some e → x.1 < e
  | [], l, h, x, hx => by
    simp [piecesOf] at h
    subst h
    simp at hx
  | w :: r, l, h, x, hx => by
    simp only [piecesOf] at h
    cases e1 : pieceOf w with
    | none => rw [e1] at h; simp at h
    | some y =>
      rw [e1] at h
      cases e2 : piecesOf r with
      | none => rw [e2] at h; simp at h
      | some m =>
        rw [e2] at h
        simp at h
        subst h
        rcases List.mem_cons.mp hx with rfl | hx
        · exact piece_full e1
        · exact pieces_full e2 x hx
theorem m_union {l : List Piece} (hl : ∀ x ∈ l, ∀ e, x.2 = some e → x.1 < e) : boundsI (l.map castP) = up (union l) := by
  have full : ∀ y ∈ l, Full (castP y) := fun y hy d hd => by
    obtain ⟨a, e⟩ := y
    cases e with
    | none => cases hd
    | some e =>
      cases hd
      have : a < e := hl _ hy e rfl
      show (a : Int) < (e : Int)
      omega
  refine bnd_normal (fun x hx => ?_) (fun t => ?_) fun x hx => ?_
  · obtain ⟨y, hy, rfl⟩ := List.mem_map.mp hx
    exact ⟨full y hy, by show (0 : Int) ≤ (y.1 : Int); omega⟩
  · rw [List.any_map]
    have e : ∀ y ∈ l, (inP · (t : Int)) (castP y) = has (ofPieces [y]) t := fun y hy => by
      show inP (castP y) t = _
      rw [← (full y hy).has_one, ← has_cast]
      obtain ⟨a, e⟩ := y
      cases e <;> rfl
    clear full hl
    induction l with
    | nil => rfl
    | cons y r ih =>
      rw [List.any_cons, List.any_cons, ih fun z hz => e z (by simp [hz]), ← e y (by simp)]
      rfl
  · obtain ⟨⟨a, e⟩, hy, rfl⟩ := List.mem_map.mp hx
    refine ⟨mem_ofPieces.mpr ⟨_, hy, .inl ?_⟩, fun d hd => mem_ofPieces.mpr ⟨_, hy, .inr ?_⟩⟩
    · show ((a : Int)).toNat = a
      simp
    · cases e with
      | none => cases hd
      | some e =>
        cases hd
        show some e = some ((e : Int)).toNat
        simp
theorem m_read (t : List Nat) : readI t = (Vabita.read t).map up := by
  unfold readI Vabita.read
  by_cases c : 1000 < t.length
  · rw [if_pos c, if_pos (show TEXT < t.length from c)]
    rfl
  · rw [if_neg c, if_neg (show ¬ TEXT < t.length from c)]
    cases e : wordsOf t with
    | nil => rfl
    | cons w ws =>
      simp only
      by_cases c1 : w :: ws = [NEVER]
      · rw [if_pos c1, if_pos c1]
        rfl
      · rw [if_neg c1, if_neg c1]
        by_cases c2 : w :: ws = [ALWAYS]
        · rw [if_pos c2, if_pos c2]
          rfl
        · rw [if_neg c2, if_neg c2]
          cases e2 : piecesOf (w :: ws) with
          | none => rfl
          | some l =>
            show some (boundsI (l.map castP)) = some (up (union l))
            rw [m_union (pieces_full e2)]
end Ms
end

/-! text M5 -/
section
set_option linter.all false
set_option maxRecDepth 100000
namespace Ms
open Vabita
theorem nat_uniq {a : List Nat} {s : List Int} (ha : IncN a) (hs : IncI s) (h0 : ∀ b ∈ s, 0 ≤ b) (h : ∀ u : Nat, hasI s u = has a u) : s = up a := by
  refine uniq hs (inc_cast ha) fun t => ?_
  by_cases c : 0 ≤ t
  · obtain ⟨n, rfl⟩ : ∃ n : Nat, t = (n : Int) := ⟨t.toNat, by omega⟩
    rw [h, has_cast]
  · rw [hasI_out fun b hb => by have := h0 b hb; omega, hasI_neg (by omega)]
theorem less_has (p q : List Nat) (u : Nat) : has (less p q) u = (has p u && !has q u) := normal_has (p := fun t => has p t && !has q t) (fun b hb => changes_op2 (op := fun a b => a && !b) rfl hb) u
/-- pieces before a moment -/
def cutP (t : Int) (x : Pc) : Option Pc := if x.1 < t then some (x.1, some (match x.2 with | some e => min e t | none => t)) else none
theorem cutP_some {t : Int} {x z : Pc} (h : cutP t x = some z) : x.1 < t ∧ z.1 = x.1 ∧ ∃ d, z.2 = some d ∧ d ≤ t ∧ (∀ e, x.2 = some e → d = min e t) ∧ (x.2 = none → d = t) := by
  unfold cutP at h
  split at h
  · next c =>
    cases h
    refine ⟨c, rfl, _, rfl, ?_, ?_, ?_⟩
    · split <;> omega
    · intro e he
      rw [he]
    · intro he
      rw [he]
  · cases h
theorem cut_chain {l : List Pc} (h : Chain l) (t : Int) : Chain (l.filterMap (cutP t)) := by
  refine ⟨?_, fun z hz => ?_⟩
  · refine List.Pairwise.filterMap (cutP t) (fun x y hxy z hz v hv => ?_) h.bef
    obtain ⟨e, he, hlt⟩ := hxy
    obtain ⟨h1, h2, d, h3, h4, h5, h6⟩ := cutP_some hz
    obtain ⟨g1, g2, _⟩ := cutP_some hv
    refine ⟨d, h3, ?_⟩
    have := h5 e he
    rw [g2]
    omega
  · obtain ⟨x, hx, e⟩ := List.mem_filterMap.mp hz
    obtain ⟨h1, h2, d, h3, h4, h5, h6⟩ := cutP_some e
    intro d' hd'
    rw [h3] at hd'
    cases hd'
    rw [h2]
    cases e2 : x.2 with
    | none =>
      have := h6 e2
      omega
    | some e' =>
      have f := h.full x hx e' e2
      have := h5 e' e2
      omega
theorem cut_any {l : List Pc} (t u : Int) : (l.filterMap (cutP t)).any (inP · u) = (l.any (inP · u) && decide (u < t)) := by
  rw [Bool.eq_iff_iff, Bool.and_eq_true, List.any_eq_true, List.any_eq_true, decide_eq_true_iff]
  constructor
  · rintro ⟨z, hz, hi⟩
    obtain ⟨x, hx, e⟩ := List.mem_filterMap.mp hz
    obtain ⟨h1, h2, d, h3, h4, h5, h6⟩ := cutP_some e
    rw [inP_iff] at hi
    have hd := hi.2 d h3
    refine ⟨⟨x, hx, (inP_iff x u).mpr ⟨by have := hi.1; rw [h2] at this; exact this, fun e' he' => ?_⟩⟩, by omega⟩
    have := h5 e' he'
    omega
  · rintro ⟨⟨x, hx, hi⟩, hu⟩
    rw [inP_iff] at hi
    have hc : x.1 < t := by omega
    refine ⟨_, List.mem_filterMap.mpr ⟨x, hx, if_pos hc⟩, (inP_iff _ u).mpr ⟨hi.1, fun e he => ?_⟩⟩
    cases he
    cases e2 : x.2 with
    | none => exact hu
    | some e' =>
      have := hi.2 e' e2
      show u < min e' t
      omega
theorem less_cut {p : List Nat} (hp : IncN p) (t : Nat) : up (less p [t]) = bOf ((pcs (up p)).filterMap (cutP (t : Int))) := by
  have hc := cut_chain (pcs_chain (inc_cast hp)) (t : Int)
  obtain ⟨h1, h2⟩ := hc.ok
  refine (nat_uniq (a := less p [t]) (inc_normal _ _) h1 (nonneg_of h1 fun u hu => ?_) fun u => ?_).symm
  · rw [h2, cut_any, ← has_pcs (inc_cast hp), hasI_neg hu]
    rfl
  · rw [h2, cut_any, ← has_pcs (inc_cast hp), has_cast, less_has]
    congr 1
    have e : has [t] u = decide (t ≤ u) := by
      unfold has
      by_cases c : t ≤ u
      · simp [c]
      · simp [c]
    rw [e, Bool.eq_iff_iff]
    simp
theorem pcs_bOf : ∀ {l : List Pc}, (∀ x ∈ l, x.2.isSome = true) → pcs (bOf l) = l
  | [], _ => rfl
  | (a, none) :: r, h => by have := h (a, none) (by simp); cases this
  | (a, some e) :: r, h => by
    rw [bOf_cons]
    show (a, some e) :: pcs (bOf r) = _
    rw [pcs_bOf fun x hx => h x (by simp [hx])]
theorem m_rank {p : Bounds} (hp : IncN p) (t : Nat) : sizeI (up (less p [t])) = (rank p t : Int) := by
  rw [less_cut hp]
  unfold sizeI
  rw [pcs_bOf fun z hz => by
    obtain ⟨x, hx, e⟩ := List.mem_filterMap.mp hz
    obtain ⟨_, _, d, h3, _⟩ := cutP_some e
    rw [h3]
    rfl]
  unfold rank
  rw [pcs_up]
  have hf := fun y (hy : y ∈ pieces p) => pc_facts hp hy
  generalize pieces p = l at hf
  induction l with
  | nil => rfl
  | cons y r ih =>
    have ih := ih fun z hz => hf z (by simp [hz])
    obtain ⟨_, f2⟩ := hf y (by simp)
    obtain ⟨a, e⟩ := y
    rw [List.map_cons, List.map_cons, List.sum_cons, List.filterMap_cons]
    unfold cutP
    by_cases c : a < t
    · have hc : (castP (a, e)).1 < (t : Int) := by show (a : Int) < (t : Int); omega
      rw [if_pos hc]
      simp only [List.map_cons, List.sum_cons]
      unfold cutP at ih
      rw [ih]
      cases e with
      | none =>
        show ((t : Int) - (a : Int)) + _ = _
        simp
        omega
      | some e =>
        have h1 : a < e := (f2 e rfl).2
        show (min (e : Int) (t : Int) - (a : Int)) + _ = _
        simp
        omega
    · have hc : ¬ (castP (a, e)).1 < (t : Int) := by show ¬ (a : Int) < (t : Int); omega
      rw [if_neg hc]
      unfold cutP at ih
      simp only
      rw [ih]
      cases e with
      | none => simp; omega
      | some e =>
        have h1 : a < e := (f2 e rfl).2
        simp
        omega
theorem m_size {p : Bounds} (hp : IncN p) (hl : ∀ b ∈ p, b ≤ LAST) (he : endless p = false) : sizeI (up p) = (size p : Int) := by
  unfold sizeI size rank
  have hend := pcs_ends (s := up p) (by rw [end_cast]; exact he)
  rw [pcs_up] at hend ⊢
  have hf := fun y (hy : y ∈ pieces p) => pc_facts hp hy
  have hL := fun y (hy : y ∈ pieces p) => (⟨hl _ (pc_facts hp hy).1, fun e he => hl _ ((pc_facts hp hy).2 e he).1⟩ : y.1 ≤ LAST ∧ ∀ e, y.2 = some e → e ≤ LAST)
  generalize pieces p = l at hf hend hL
  induction l with
  | nil => rfl
  | cons y r ih =>
    have ih := ih (fun z hz => hf z (by simp [hz])) (fun x hx => hend x (List.mem_cons_of_mem _ hx)) (fun z hz => hL z (by simp [hz]))
    obtain ⟨_, f2⟩ := hf y (by simp)
    obtain ⟨l1, l2⟩ := hL y (by simp)
    obtain ⟨e', he'⟩ := hend (castP y) (by simp)
    obtain ⟨a, e⟩ := y
    cases e with
    | none => cases he'
    | some e =>
      have h1 : a < e := (f2 e rfl).2
      have h2 : e ≤ LAST := l2 e rfl
      rw [List.map_cons, List.map_cons, List.map_cons, List.sum_cons, List.sum_cons, ih]
      show ((e : Int) - (a : Int)) + _ = _
      simp
      omega
theorem nth_cast : ∀ {l : List Piece}, (∀ x ∈ l, ∀ e, x.2 = some e → x.1 < e) → ∀ n : Nat, nthP (l.map castP) (n : Int) = Option.map (fun (n : Nat) => (n : Int)) (nth l n)
  | [], _, n => rfl
  | (a, none) :: r, _, n => by
    show some ((a : Int) + (n : Int)) = some ((a + n : Nat) : Int)
    rfl
  | (a, some e) :: r, h, n => by
    have h1 : a < e := h (a, some e) (by simp) e rfl
    show (if (n : Int) < (e : Int) - (a : Int) then some ((a : Int) + (n : Int)) else nthP (r.map castP) ((n : Int) - ((e : Int) - (a : Int)))) = Option.map _ (if n < e - a then some (a + n) else nth r (n - (e - a)))
    by_cases c : n < e - a
    · rw [if_pos c, if_pos (by omega)]
      rfl
    · rw [if_neg c, if_neg (by omega), ← nth_cast (fun x hx => h x (by simp [hx]))]
      congr 1
      omega
theorem nth_core {p : Bounds} (hp : IncN p) (n : Nat) : nthP (pcs (up p)) (n : Int) = Option.map (fun (n : Nat) => (n : Int)) (nth (pieces p) n) := by
  rw [pcs_up]
  exact nth_cast (fun x hx e he => ((pc_facts hp hx).2 e he).2) n
end Ms
end

/-! text M6 -/
section
set_option linter.all false
set_option maxRecDepth 100000
namespace Ms
open Vabita
theorem find_least {q : List Nat} (hq : IncN q) {f : Nat → Bool} {x : Nat} (h : q.find? f = some x) : ∀ y ∈ q, f y = true → x ≤ y := by
  induction q with
  | nil => cases h
  | cons a r ih =>
    intro y hy hf
    rw [List.find?_cons] at h
    split at h
    · cases h
      rcases List.mem_cons.mp hy with rfl | hy
      · exact Nat.le_refl _
      · exact Nat.le_of_lt (List.rel_of_pairwise_cons hq hy)
    · next e =>
      rcases List.mem_cons.mp hy with rfl | hy
      · rw [hf] at e; cases e
      · exact ih hq.of_cons h y hy hf
/-- the least moment from t on -/
def Least (p : List Nat) (t u : Nat) : Prop := t ≤ u ∧ has p u = true ∧ ∀ v, t ≤ v → has p v = true → u ≤ v
theorem least_uniq {p : List Nat} {t u v : Nat} (h : Least p t u) (g : Least p t v) : u = v := Nat.le_antisymm (h.2.2 v g.1 g.2.1) (g.2.2 u h.1 h.2.1)
theorem next_spec {p : List Nat} (hp : IncN p) (t : Nat) : (∀ u, nextIn p t = some u → Least p t u) ∧ (nextIn p t = none → ∀ v, t ≤ v → has p v = false) := by
  unfold nextIn
  by_cases c : has p t = true
  · rw [if_pos c]
    exact ⟨fun u h => by cases h; exact ⟨Nat.le_refl _, c, fun v hv _ => hv⟩, fun h => by cases h⟩
  · rw [if_neg c]
    have key : ∀ v, t ≤ v → has p v = true → ∃ b ∈ p, (decide (t < b) && has p b) = true ∧ b ≤ v := fun v hv h => by
      obtain ⟨y, hy, h1, h2⟩ := (has_iff hp v).mp h
      have h3 : t < y.1 := by
        by_cases c2 : y.1 ≤ t
        · exact absurd ((has_iff hp t).mpr ⟨y, hy, c2, fun e he => by have := h2 e he; omega⟩) c
        · omega
      exact ⟨y.1, (pc_facts hp hy).1, by rw [decide_eq_true h3, has_at hp hy]; rfl, h1⟩
    constructor
    · intro u h
      have h1 := List.find?_some h
      rw [Bool.and_eq_true, decide_eq_true_iff] at h1
      refine ⟨by omega, h1.2, fun v hv hh => ?_⟩
      obtain ⟨b, hb, hf, hle⟩ := key v hv hh
      have := find_least hp h b hb hf
      omega
    · intro h v hv
      cases e : has p v with
      | false => rfl
      | true =>
        obtain ⟨b, hb, hf, hle⟩ := key v hv e
        have := List.find?_eq_none.mp h b hb
        exact absurd hf this
theorem begins_lt {l : List Pc} (h : Chain l) : l.Pairwise (fun x y => x.1 < y.1) := by
  have : ∀ {l : List Pc}, Chain l → l.Pairwise (fun x y => x.1 < y.1) := fun {l} h => by
    induction l with
    | nil => exact .nil
    | cons x r ih =>
      refine List.pairwise_cons.mpr ⟨fun y hy => ?_, ih h.tail⟩
      obtain ⟨e, he, hlt⟩ := List.rel_of_pairwise_cons h.bef hy
      have := h.full x (by simp) e he
      omega
  exact this h
theorem find_first {l : List Pc} (h : l.Pairwise (fun x y => x.1 < y.1)) {f : Pc → Bool} {x : Pc} (e : l.find? f = some x) : ∀ y ∈ l, f y = true → x.1 ≤ y.1 := by
  induction l with
  | nil => cases e
  | cons a r ih =>
    intro y hy hf
    rw [List.find?_cons] at e
    split at e
    · cases e
      rcases List.mem_cons.mp hy with rfl | hy
      · exact Int.le_refl _
      · have := List.rel_of_pairwise_cons h hy
        omega
    · next g =>
      rcases List.mem_cons.mp hy with rfl | hy
      · rw [hf] at g; cases g
      · exact ih h.of_cons e y hy hf
theorem next_core {p : Bounds} (hp : IncN p) (t : Nat) : nextI (up p) (t : Int) = Option.map (fun (n : Nat) => (n : Int)) (nextIn p t) := by
  obtain ⟨h1, h2⟩ := next_spec hp t
  unfold nextI
  rw [has_cast]
  by_cases c : has p t = true
  · rw [if_pos c]
    unfold nextIn
    rw [if_pos c]
    rfl
  · rw [if_neg c]
    have key : ∀ v, t ≤ v → has p v = true → ∃ y ∈ pieces p, t < y.1 ∧ y.1 ≤ v := fun v hv h => by
      obtain ⟨y, hy, h1, h2⟩ := (has_iff hp v).mp h
      refine ⟨y, hy, ?_, h1⟩
      by_cases c2 : y.1 ≤ t
      · exact absurd ((has_iff hp t).mpr ⟨y, hy, c2, fun e he => by have := h2 e he; omega⟩) c
      · omega
    cases e : (pcs (up p)).find? (fun x => decide ((t : Int) < x.1)) with
    | none =>
      cases e2 : nextIn p t with
      | none => rfl
      | some u =>
        obtain ⟨g1, g2, _⟩ := h1 u e2
        obtain ⟨y, hy, g3, g4⟩ := key u g1 g2
        have hm : castP y ∈ pcs (up p) := by rw [pcs_up]; exact List.mem_map.mpr ⟨y, hy, rfl⟩
        have := List.find?_eq_none.mp e (castP y) hm
        exact absurd (decide_eq_true (show (t : Int) < (y.1 : Int) by omega)) this
    | some x =>
      have hx := List.mem_of_find?_eq_some e
      have hf := of_decide_eq_true (List.find?_some (p := fun x : Pc => decide ((t : Int) < x.1)) e)
      rw [pcs_up] at hx
      obtain ⟨y, hy, rfl⟩ := List.mem_map.mp hx
      have hf' : (t : Int) < (y.1 : Int) := hf
      have hL : Least p t y.1 := ⟨by omega, has_at hp hy, fun v hv hh => by
        obtain ⟨z, hz, g3, g4⟩ := key v hv hh
        have hm : castP z ∈ pcs (up p) := by rw [pcs_up]; exact List.mem_map.mpr ⟨z, hz, rfl⟩
        have : (y.1 : Int) ≤ (z.1 : Int) := find_first (begins_lt (pcs_chain (inc_cast hp))) e (castP z) hm (decide_eq_true (show (t : Int) < (z.1 : Int) by omega))
        omega⟩
      cases e2 : nextIn p t with
      | none =>
        have := h2 e2 y.1 hL.1
        rw [hL.2.1] at this
        cases this
      | some u =>
        rw [least_uniq (h1 u e2) hL]
        rfl
theorem m_first {p : List Nat} (hp : IncN p) : nextIn p 0 = p.head? := by
  obtain ⟨h1, h2⟩ := next_spec hp 0
  cases p with
  | nil => rfl
  | cons a r =>
    have ha : has (a :: r) a = true := by
      obtain ⟨y, hy, e⟩ : ∃ y ∈ pieces (a :: r), y.1 = a := by
        cases r with
        | nil => exact ⟨(a, none), by simp [pieces], rfl⟩
        | cons b q => exact ⟨(a, some b), by simp [pieces], rfl⟩
      have h3 := has_at hp hy
      rw [e] at h3
      exact h3
    have hL : Least (a :: r) 0 a := ⟨Nat.zero_le _, ha, fun v _ hv => by
      obtain ⟨y, hy, g1, _⟩ := (has_iff hp v).mp hv
      have := (pc_facts hp hy).1
      rcases List.mem_cons.mp this with h | h
      · omega
      · have := List.rel_of_pairwise_cons hp h
        omega⟩
    cases e : nextIn (a :: r) 0 with
    | none =>
      have := h2 e a (Nat.zero_le _)
      rw [ha] at this
      cases this
    | some u => rw [least_uniq (h1 u e) hL]; rfl
/-- the greatest moment up to t -/
def Great (p : List Nat) (t u : Nat) : Prop := u ≤ t ∧ has p u = true ∧ ∀ v, v ≤ t → has p v = true → v ≤ u
theorem great_uniq {p : List Nat} {t u v : Nat} (h : Great p t u) (g : Great p t v) : u = v := Nat.le_antisymm (g.2.2 u h.1 h.2.1) (h.2.2 v g.1 g.2.1)
theorem has_same {p : List Nat} {a b : Nat} (h : ∀ x ∈ p, ¬ (a < x ∧ x ≤ b)) (hab : a ≤ b) : has p a = has p b := by
  rw [← has_cast, ← has_cast]
  refine hasI_same fun x hx => ?_
  obtain ⟨n, hn, rfl⟩ := List.mem_map.mp hx
  have := h n hn
  omega
theorem prev_spec {p : List Nat} (hp : IncN p) (t : Nat) : (∀ u, prevIn p t = some u → Great p t u) ∧ (prevIn p t = none → ∀ v, v ≤ t → has p v = false) := by
  unfold prevIn
  by_cases c : has p t = true
  · rw [if_pos c]
    exact ⟨fun u h => by cases h; exact ⟨Nat.le_refl _, c, fun v hv _ => hv⟩, fun h => by cases h⟩
  · rw [if_neg c]
    have c' : has p t = false := by simpa using c
    cases e : (p.filter fun x => decide (x ≤ t)).getLast? with
    | none =>
      refine ⟨fun u h => (by cases h), fun _ v hv => ?_⟩
      have hn : p.filter (fun x => decide (x ≤ t)) = [] := List.getLast?_eq_none_iff.mp e
      cases e2 : has p v with
      | false => rfl
      | true =>
        obtain ⟨y, hy, g1, _⟩ := (has_iff hp v).mp e2
        have : y.1 ∈ p.filter (fun x => decide (x ≤ t)) := List.mem_filter.mpr ⟨(pc_facts hp hy).1, decide_eq_true (by omega)⟩
        rw [hn] at this
        simp at this
    | some x =>
      have hx := List.mem_of_getLast? e
      have hxp := (List.mem_filter.mp hx).1
      have hxt := of_decide_eq_true (List.mem_filter.mp hx).2
      have hmax : ∀ b ∈ p, b ≤ t → b ≤ x := fun b hb hbt => by
        have hbf : b ∈ p.filter (fun x => decide (x ≤ t)) := List.mem_filter.mpr ⟨hb, decide_eq_true hbt⟩
        have hinc : IncN (p.filter fun x => decide (x ≤ t)) := hp.filter _
        obtain ⟨q, hq⟩ := List.getLast?_eq_some_iff.mp e
        rw [hq] at hbf hinc
        rcases List.mem_append.mp hbf with h | h
        · exact Nat.le_of_lt ((List.pairwise_append.mp hinc).2.2 b h x (by simp))
        · simp at h
          omega
      have hc : ∀ v, x ≤ v → v ≤ t → has p v = false := fun v h1 h2 => by
        rw [has_same (a := v) (b := t) (fun b hb hh => by have := hmax b hb hh.2; omega) h2, c']
      have hx0 : 0 < x := by
        cases x with
        | zero =>
          have h0 := hc 0 (Nat.le_refl _) (Nat.zero_le _)
          rw [has_zero hp, decide_eq_true hxp] at h0
          cases h0
        | succ n => omega
      have hb : has p (x - 1) = true := by
        have hs := has_step hp (x - 1)
        rw [show x - 1 + 1 = x by omega, hc x (Nat.le_refl _) hxt, decide_eq_true hxp] at hs
        cases e2 : has p (x - 1) with
        | true => rfl
        | false => rw [e2] at hs; cases hs
      refine ⟨fun u h => ?_, fun h => by cases h⟩
      have hu : x - 1 = u := by simpa using h
      subst hu
      refine ⟨by omega, hb, fun v hv hh => ?_⟩
      by_cases c2 : x ≤ v
      · rw [hc v c2 hv] at hh
        cases hh
      · omega
theorem prev_core {p : Bounds} (hp : IncN p) (t : Nat) : prevI (up (less p [t + 1])) = Option.map (fun (n : Nat) => (n : Int)) (prevIn p t) := by
  obtain ⟨h1, h2⟩ := prev_spec hp t
  have hi : IncN (less p [t + 1]) := inc_normal _ _
  have hh : ∀ u, has (less p [t + 1]) u = (has p u && decide (u ≤ t)) := fun u => by
    rw [less_has]
    congr 1
    have e : has [t + 1] u = decide (t + 1 ≤ u) := by
      unfold has
      by_cases c : t + 1 ≤ u
      · simp [c]
      · simp [c]
    rw [e, Bool.eq_iff_iff]
    simp
    omega
  generalize less p [t + 1] = a at hi hh
  unfold prevI
  by_cases c : a = []
  · subst c
    rw [if_pos (show up [] = [] from rfl)]
    cases e : prevIn p t with
    | none => rfl
    | some u =>
      obtain ⟨g1, g2, _⟩ := h1 u e
      have := hh u
      rw [g2, decide_eq_true g1] at this
      cases this
  · rw [if_neg (fun z => c (by unfold up at z; simpa using z))]
    obtain ⟨r, z, rfl⟩ : ∃ r z, a = r ++ [z] := ⟨a.dropLast, a.getLast c, (List.dropLast_concat_getLast c).symm⟩
    have hlt : ∀ b ∈ r, b < z := fun b hb => (List.pairwise_append.mp hi).2.2 b hb z (by simp)
    have hall : ∀ v, z ≤ v → has (r ++ [z]) v = endless (r ++ [z]) := fun v hv => by
      rw [← has_cast, ← end_cast]
      refine hasI_all fun b hb => ?_
      obtain ⟨n, hn, rfl⟩ := List.mem_map.mp hb
      rcases List.mem_append.mp hn with h | h
      · have := hlt n h
        omega
      · simp at h
        omega
    have he : endless (r ++ [z]) = false := by
      rw [← hall (max z (t + 1)) (by omega), hh]
      rw [decide_eq_false (by omega), Bool.and_false]
    have hz : has (r ++ [z]) z = false := by rw [hall z (Nat.le_refl _), he]
    have hz0 : 0 < z := by
      cases z with
      | zero =>
        rw [has_zero hi, decide_eq_true (by simp)] at hz
        cases hz
      | succ n => omega
    have hb : has (r ++ [z]) (z - 1) = true := by
      have hs := has_step hi (z - 1)
      rw [show z - 1 + 1 = z by omega, hz, decide_eq_true (by simp)] at hs
      cases e2 : has (r ++ [z]) (z - 1) with
      | true => rfl
      | false => rw [e2] at hs; cases hs
    have hg : Great p t (z - 1) := by
      have h3 := hh (z - 1)
      rw [hb] at h3
      have h4 := (Bool.and_eq_true_iff.mp h3.symm)
      refine ⟨of_decide_eq_true h4.2, h4.1, fun v hv hv2 => ?_⟩
      have h5 := hh v
      rw [hv2, decide_eq_true hv] at h5
      by_cases c2 : z ≤ v
      · rw [hall v c2, he] at h5
        cases h5
      · omega
    have el : (up (r ++ [z])).getLastD 0 = (z : Int) := by
      unfold up
      rw [List.map_append]
      exact List.getLastD_concat ..
    rw [el]
    cases e : prevIn p t with
    | none =>
      have := h2 e (z - 1) hg.1
      rw [hg.2.1] at this
      cases this
    | some u =>
      rw [great_uniq (h1 u e) hg]
      show some ((z : Int) - 1) = some ((z - 1 : Nat) : Int)
      congr 1
      omega
end Ms
end

/-! text U1 -/
section
set_option Elab.async false
set_option linter.all false
set_option maxRecDepth 100000
set_option maxHeartbeats 4000000
namespace Ms
open PySem PySem.Spec PyProof.Rows L2 HotX
abbrev sRI : Stmt := inClass (top 70) 0
/-- Refused -/
structure RfF (K : PySem.W.Frag) (mg : Str → Option Value) (RF : Addr) : Prop where
  g : mg "Refused" = some (.ref RF)
  T : OexC K RF
  n : PySem.W.findIn K (.ref RF) "number" = some none
  x : XfC K RF
  y : PySem.W.exmOne K (.ref RF) (.ref RF) = some true
  i : ∃ (fI : Addr) (fd : FuncData), PySem.W.findIn K (.ref RF) "__init__" = some (some (.ref fI)) ∧ PySem.W.typeIn K (.ref fI) = some (.type "function") ∧ Fun K "__init__" "Refused.__init__" sRI fI fd
section
variable {P : Program} {w : World} {K : PySem.W.Frag} {mg : Str → Option Value} {base : Heap} {J RF : Addr}
def spRI (RF : Addr) : Sp := fun vs H Q _ => ∃ (a : Addr) (n : Int), vs = [.ref a, .int n] ∧ H a = some (exo a RF none) ∧ ∀ dx, H dx = none → dx ≠ a → Q .non (upd (upd H dx (exd dx [("number", .int n)])) a (exo a RF (some dx)))
theorem sc_ri : FnScope ["self", "number"] ["self", "number"] (defScope sRI) := ⟨rfl, rfl, rfl, by decide +kernel, rfl, by decide +kernel, by decide +kernel⟩
theorem ri_body (R : RfF K mg RF) {vs : List V} {H : Hp} {Q : VK} {E : XK} (h : spRI RF vs H Q E) : (tOst K "number" (tVar 0) (tVar 1)) { nx := fun _ H' => Q .non H', rt := Q } (L2.start ["self", "number"] vs) H := by
  obtain ⟨a, n, rfl, ha, k⟩ := h
  exact ⟨_, rfl, _, rfl, a, RF, rfl, R.T, R.n, .inl ⟨ha, k⟩⟩
theorem ri_len {vs : List V} {H : Hp} {Q : VK} {E : XK} (h : spRI RF vs H Q E) : vs.length = (["self", "number"] : List Str).length := by
  obtain ⟨a, n, rfl, _⟩ := h
  rfl
theorem ok_ri {fI : Addr} {fd : FuncData} (F : Fun K "__init__" "Refused.__init__" sRI fI fd) (R : RfF K mg RF) : FnOk P w K mg base CX0 1 fI fd ["self", "number"] (spRI RF) :=
  F.ok sc_ri (fun vs H Q E h => ri_len h) (fun cdv A outer s H vs Q E hr h => ⟨_, pss_one (ps_ost (pv 0) (pv 1)), ri_body R h⟩)
theorem ok_riH {fI : Addr} {fd : FuncData} (F : Fun K "__init__" "Refused.__init__" sRI fI fd) (R : RfF K mg RF) : L2H.FnH P w K mg base CX0 1 fI fd ["self", "number"] (spRI RF) := by
  obtain ⟨oc, od, kV, doc, pm, an, cdv, ct, osl, rfl, lk, hcd⟩ := F.ex
  exact L2H.fn_ofH lk hcd sc_ri (fun vs H Q E h => ri_len h) (fun A outer s H vs Q E p hot hr h => ⟨_, pss_one (ps_ost (pv 0) (pv 1)), ri_body R h⟩)
theorem ri_binds {fI : Addr} {fd : FuncData} (F : Fun K "__init__" "Refused.__init__" sRI fI fd) : Binds K fd ["self", "number"] [] := F.binds fun _ _ _ _ _ _ us hl => match us, hl with | [_, _], _ => rfl
/-- what a refusal leaves -/
def RefX (J RF : Addr) (E : XK) (H : Hp) (n : Int) : Prop := ∀ H' d, Kp J H H' → Tab J H' → H' d = some (.xd [("number", .int n)]) → E (.ref RF) (some d) H'
theorem RefX.on {J RF : Addr} {E : XK} {H H1 : Hp} {n : Int} (r : RefX J RF E H n) (k : Kp J H H1) : RefX J RF E H1 n := fun H' d k' t h => r H' d (k.trans k') t h
/-- the reading of Refused(number) -/
theorem mk_ref {E : XK} {H : Hp} {n : Int} (t : Tab J H) (r : RefX J RF E H n) : ∀ a, H a = none → spRI RF (.ref a :: ([.int n] ++ [])) (upd H a (exo a RF none))
    (fun v H2 => v = .non ∧ ∃ (d : Addr) (fs : List (Str × V)), H2 a = some (exo a RF (some d)) ∧ H2 d = some (exd d fs) ∧ H d = none ∧ E (.ref RF) (some d) (upd (del H2 a) d (.xd fs))) (fun _ _ _ => False) := fun a ha => by
  refine ⟨a, n, rfl, upd_same, fun dx hdx hne => ⟨rfl, dx, [("number", .int n)], upd_same, ?_, ?_, ?_⟩⟩
  · rw [upd_ne hne, upd_same]
  · rw [upd_ne hne] at hdx
    exact hdx
  · have hd : H dx = none := by
      rw [upd_ne hne] at hdx
      exact hdx
    have sm : Same H (upd (del (upd (upd (upd H a (exo a RF none)) dx (exd dx [("number", .int n)])) a (exo a RF (some dx))) a) dx (.xd [("number", .int n)])) := fun b u q => by
      have n1 : b ≠ a := ne_of_none q ha
      have n2 : b ≠ dx := ne_of_none q hd
      rw [upd_ne n2, del_ne n1, upd_ne n1, upd_ne n2, upd_ne n1]
      exact q
    exact r _ dx (Kp.same sm) (t.ext sm) upd_same
/-! need -/
def spNeed (J RF : Addr) : Sp := fun vs H Q E => ∃ (b : Bool) (n : Int), vs = [.bl b, .int n] ∧ Tab J H ∧ (b = true → Q .non H) ∧ (b = false → RefX J RF E H n)
theorem sc_need : FnScope ["truth", "number"] ["truth", "number"] (defScope (top 72)) := ⟨rfl, rfl, rfl, by decide +kernel, rfl, by decide +kernel, by decide +kernel⟩
theorem ok_need (d : DefAt K "need" (top 72)) (G : Gm K mg) (R : RfF K mg RF) : Fn P w K mg base (L2.CX P w) 3 "need" ["truth", "number"] (spNeed J RF) := by
  obtain ⟨fI, fd, i1, i2, FI⟩ := R.i
  refine d.fnG G sc_need (fun _ _ _ _ _ _ us hl => match us, hl with | [_, _], _ => rfl) (fun vs H Q E h => ?_) (fun f cdv A outer s H vs Q E hr h => ?_)
  · obtain ⟨b, n, rfl, _⟩ := h
    rfl
  · obtain ⟨b, n, rfl, tb, k1, k2⟩ := h
    refine ⟨_, pss_one (ps_if (pt_not (pt_val (pv 0))) (pss_one (L2.ps_raise rfl (L2.takes_of rfl rfl rfl rfl) (pmk_oex R.T i1 i2 (ok_ri FI R) hr (ri_binds FI) .nil pass0 (by rfl) R.g (pa_cons (pv 1) pa_nil)))) pss_nil), ?_⟩
    cases b with
    | true => exact ⟨_, rfl, _, rfl, ifF rfl (k1 rfl)⟩
    | false => exact ⟨_, rfl, _, rfl, ifT rfl ⟨_, rfl, by show 1 ≤ 1000; decide, mk_ref tb (k2 rfl)⟩⟩
/-! need_there -/
def spThere (J RF : Addr) : Sp := fun vs H Q E => ∃ (m : Option Int), vs = [endV m] ∧ Tab J H ∧ (∀ t, m = some t → Q (.int t) H) ∧ (m = none → RefX J RF E H (-3))
theorem sc_there : FnScope ["moment"] ["moment"] (defScope (top 73)) := ⟨rfl, rfl, rfl, by decide +kernel, rfl, by decide +kernel, by decide +kernel⟩
theorem ok_there (d : DefAt K "need_there" (top 73)) (G : Gm K mg) (gT : GC mg "NOT_THERE" (.int (-3))) (F : Fn P w K mg base (L2.CX P w) 3 "need" ["truth", "number"] (spNeed J RF)) : Fn P w K mg base (L2.CX P w) 4 "need_there" ["moment"] (spThere J RF) := by
  refine d.fnG G sc_there (fun _ _ _ _ _ _ us hl => match us, hl with | [_], _ => rfl) (fun vs H Q E h => ?_) (fun f cdv A outer s H vs Q E hr h => ?_)
  · obtain ⟨m, rfl, _⟩ := h
    rfl
  · obtain ⟨m, rfl, tb, k1, k2⟩ := h
    have tk : L2.Takes (cxOf (L2.CX P w) P w K mg base ["moment"] "need_there" (defScope (top 73)) f cdv A outer s H E) (fun cls d _ H => E cls d H) := L2.takes_of rfl rfl rfl rfl
    have px : Passes (L2.CX P w) (cxOf (L2.CX P w) P w K mg base ["moment"] "need_there" (defScope (top 73)) f cdv A outer s H E) E := L2.passes_call tk (fun _ _ _ _ h => h)
    refine ⟨_, pss_cons (ps_expr (pe_fnX F hr px (pa_cons (pe_cmp (pc_notN (pv 0))) (pa_cons (pe_gcv rfl gT) pa_nil)))) (pss_one (ps_ret (pv 0))), ?_⟩
    cases m with
    | none => exact ⟨_, rfl, false, -3, rfl, tb, fun h => (by cases h), fun _ => k2 rfl⟩
    | some t => exact ⟨_, rfl, true, -3, rfl, tb, fun _ => ⟨_, rfl, k1 t rfl⟩, fun h => (by cases h)⟩
end
end Ms
end

/-! text U2 -/
section
set_option Elab.async false
set_option linter.all false
set_option maxRecDepth 100000
set_option maxHeartbeats 4000000
namespace Ms
open PySem PySem.Spec PyProof.Rows L2 HotX
section
variable {J D : Addr} {H1 H H4 : Hp} {i : Nat}
/-- truths made so far -/
def RBl (f : Nat → List Bool) : Nat → List V → Hp → Prop := fun i acc _ => acc = (f i).map V.bl
variable {f : Nat → List Bool}
theorem LcP.appB {y : Bool} (p : LcP J H1 D (RBl f) i H) (k : Kp J H H4) (hg : f (i + 1) = f i ++ [y]) (hl : (f i).length ≤ 100000) :
    ∃ acc, H4 D = some (.lst acc) ∧ acc.length < sizeLine ∧ LcP J H1 D (RBl f) (i + 1) (upd H4 D (.lst (acc ++ [V.bl y]))) := by
  obtain ⟨acc, h1, rfl⟩ := p.at_
  refine p.app k h1 ?_ ?_
  · rw [List.length_map]
    exact small hl
  · show _ = _
    rw [hg, List.map_append]
    rfl
theorem LcP.endB (p : LcP J H1 D (RBl f) i H) : H D = some (.lst ((f i).map V.bl)) := by
  obtain ⟨acc, h1, rfl⟩ := p.at_
  exact h1
theorem LcP.startB (hD : H1 D = none) (t : Tab J H1) (h0 : f 0 = []) : LcP J H1 D (RBl f) 0 (upd H1 D (.lst [])) := LcP.start hD t (by show _ = _; rw [h0]; rfl)
end
theorem cut_from (xs : List V) (k : Nat) : cutV xs (some (k : Int)) none = xs.drop k := by
  unfold cutV
  rw [HT.sIx_nat, HT.sIx_none]
  by_cases h : k ≤ xs.length
  · rw [Nat.min_eq_left h, List.take_of_length_le (by rw [List.length_drop]; exact Nat.le_refl _)]
  · rw [Nat.min_eq_right (show xs.length ≤ k by omega), List.drop_of_length_le (Nat.le_refl _), List.drop_of_length_le (show xs.length ≤ k by omega)]
    simp
theorem cut_to (xs : List V) (k m : Nat) : cutV xs (some (k : Int)) (some (m : Int)) = (xs.drop k).take (m - k) := by
  unfold cutV
  rw [HT.sIx_nat, HT.sIx_nat]
  by_cases h : k ≤ xs.length
  · rw [Nat.min_eq_left h]
    by_cases h2 : m ≤ xs.length
    · rw [Nat.min_eq_left h2]
    · rw [Nat.min_eq_right (by omega)]
      rw [List.take_of_length_le (by rw [List.length_drop]; exact Nat.le_refl _), List.take_of_length_le (by rw [List.length_drop]; omega)]
  · rw [Nat.min_eq_right (show xs.length ≤ k by omega), List.drop_of_length_le (Nat.le_refl _), List.drop_of_length_le (show xs.length ≤ k by omega)]
    simp
def inR (n : Int) : Bool := decide (0 ≤ n) && decide (n ≤ 1000000000)
def listedOk (ns : List Int) : Bool := ns.all inR && (ns.zip (ns.drop 1)).all fun x => decide (x.1 < x.2)
section
variable {P : Program} {w : World} {K : PySem.W.Frag} {mg : Str → Option Value} {base : Heap} {J RF NT : Addr}
/-! listed -/
def spListed (J RF : Addr) : Sp := fun vs H Q E => ∃ (a : Addr) (ns : List Int), vs = [.ref a] ∧ IL H a ns ∧ ns.length ≤ 3000 ∧ Tab J H ∧ (listedOk ns = true → ∀ H' p, Kp J H H' → Tab J H' → NL H p → IL H' p ns → Q (.ref p) H') ∧ (listedOk ns = false → RefX J RF E H (-2))
theorem sc_listed : FnScope ["row", "number", "one", "two"] ["row"] (defScope (top 74)) := ⟨rfl, rfl, rfl, by decide +kernel, rfl, by decide +kernel, by decide +kernel⟩
theorem ok_listed (d : DefAt K "listed" (top 74)) (G : Gm K mg) (B : Bi mg) (gT : GC mg "NO_FORM" (.int (-2))) (gM : GC mg "MOST" (.int 1000000000)) (F : Fn P w K mg base (L2.CX P w) 3 "need" ["truth", "number"] (spNeed J RF)) : Fn P w K mg base (L2.CX P w) 4 "listed" ["row"] (spListed J RF) := by
  refine d.fnG G sc_listed (fun _ _ _ _ _ _ us hl => match us, hl with | [_], _ => rfl) (fun vs H Q E h => ?_) (fun f cdv A outer s H vs Q E hr h => ?_)
  · obtain ⟨a, ns, rfl, _⟩ := h
    rfl
  · obtain ⟨a, ns, rfl, ha, hl, tb, k1, k2⟩ := h
    have tk : L2.Takes (cxOf (L2.CX P w) P w K mg base ["row", "number", "one", "two"] "listed" (defScope (top 74)) f cdv A outer s H E) (fun cls d _ H => E cls d H) := L2.takes_of rfl rfl rfl rfl
    have px : Passes (L2.CX P w) (cxOf (L2.CX P w) P w K mg base ["row", "number", "one", "two"] "listed" (defScope (top 74)) f cdv A outer s H E) E := L2.passes_call tk (fun _ _ _ _ h => h)
    refine ⟨_, pss_cons (ps_expr (pe_fnX F hr px (pa_cons (pe_callB (cr_all rfl) (by rfl) B.all (by decide +kernel) (pa_cons (pe_lc (own := [("number", 1)]) (g := gName 1) rfl sc_listed.nd (pi_list (pv 0)) (blkOk_by (N := ["row", "number", "one", "two"]) (sc := defScope (top 74)) (by decide +kernel)) (fun _ _ _ _ _ => pg_name (i := 1) sc_listed.nd rfl (Or.inl rfl)) (fun _ _ _ _ _ => pts_nil) (fun _ _ _ _ _ => pe_chain op_le op_le pe_int (pv 1) (pe_gcv rfl gM))) pa_nil)) (pa_cons (pe_gcv rfl gT) pa_nil))))
      (pss_cons (ps_expr (pe_fnX F hr px (pa_cons (pe_callB (cr_all rfl) (by rfl) B.all (by decide +kernel) (pa_cons (pe_lc (own := [("one", 2), ("two", 3)]) (g := gTup K 2 (gCons (gName 2) (gCons (gName 3) gNil))) rfl sc_listed.nd (pi_zip (by rfl) B.zip (pa_cons (pv 0) (pa_cons (pe_slice sl_list (pv 0) (po_some pe_int) po_none) pa_nil))) (blkOk_by (N := ["row", "number", "one", "two"]) (sc := defScope (top 74)) (by decide +kernel)) (fun _ _ _ _ _ => pg_tup rfl (pgs_cons (pg_name (i := 2) sc_listed.nd rfl (Or.inl rfl)) (pgs_cons (pg_name (i := 3) sc_listed.nd rfl (Or.inl rfl)) pgs_nil))) (fun _ _ _ _ _ => pts_nil) (fun _ _ _ _ _ => pe_cmp (pc_lt (pv 2) (pv 3)))) pa_nil)) (pa_cons (pe_gcv rfl gT) pa_nil))))
      (pss_one (ps_ret (pe_callTy call_list_of (by rfl) B.list (by decide +kernel) (pa_cons (pv 0) pa_nil))))), ?_⟩
    refine ⟨_, rfl, a, rfl, ⟨_, SqL.of ha⟩, fun D hD => lc_it (walk_list (K := K) (a := a) (xs := ns.map V.int)) (LcP J H D (RBl fun i => (ns.take i).map inR)) (LcP.startB hD tb rfl) (fun i H' _ p => SqL.of (p.kp.lst ha)) (fun i x H' H2 hi p y => ?_) (fun H' p => ?_)⟩
    · obtain ⟨rfl, hx⟩ := y
      obtain ⟨b, hb, rfl⟩ := map_get hx
      refine ⟨rfl, _, rfl, _, _, rfl, rfl, _, rfl, ?_⟩
      have hlen : ((ns.take i).map inR).length ≤ 100000 := by rw [List.length_map, List.length_take]; omega
      by_cases c : 0 ≤ b
      · refine ifT (decide_eq_true c) ⟨_, _, rfl, rfl, p.appB Kp.refl ?_ hlen⟩
        rw [take_snoc hb, List.map_append]
        simp [inR, c]
      · refine ifF (decide_eq_false c) (p.appB Kp.refl ?_ hlen)
        rw [take_snoc hb, List.map_append]
        simp [inR, c]
    · have hD' := p.endB
      rw [List.length_map, List.take_length] at hD'
      refine ⟨D, _, rfl, SqL.of hD', _, -2, rfl, p.tab, fun hb1 => ?_, fun hb1 => ?_⟩
      · rw [List.all_map] at hb1
        have ha' := p.kp.lst ha
        have kp := p.kp
        have tp := p.tab
        clear p hD'
        refine ⟨_, rfl, _, rfl, 1, rfl, a, _, rfl, SqL.of ha', fun q hq => ?_⟩
        have kq : Kp J H' (upd H' q (.lst (cutV (ns.map V.int) (some 1) none))) := Kp.new hq
        have hq' : upd H' q (.lst (cutV (ns.map V.int) (some 1) none)) q = some (.lst ((ns.drop 1).map V.int)) := by
          rw [upd_same, show (some (1 : Int)) = some ((1 : Nat) : Int) from rfl, cut_from, List.map_drop]
        have ha2 := kq.lst ha'
        have kk := kp.trans kq
        have tt := kq.tab tp
        generalize upd H' q (.lst (cutV (ns.map V.int) (some 1) none)) = H9 at hq' ha2 kk tt
        refine ⟨a, q, _, _, rfl, SqL.of ha2, SqL.of hq', fun D2 hD2 => lc_it (walk_zip (n := min (ns.map V.int).length ((ns.drop 1).map V.int).length) rfl) (LcP J H9 D2 (RBl fun i => ((ns.zip (ns.drop 1)).take i).map fun x => decide (x.1 < x.2))) (LcP.startB hD2 tt rfl) (fun i H' _ p => ⟨SqL.of (p.kp.lst ha2), SqL.of (p.kp.lst hq')⟩) (fun i x H4 H2 hi p y => ?_) (fun H2 p => ?_)⟩
        · obtain ⟨T, x, y, rfl, hT, rfl, hx, hy⟩ := y
          obtain ⟨x, hx2, rfl⟩ := map_get hx
          obtain ⟨y, hy2, rfl⟩ := map_get hy
          refine ⟨T, _, rfl, SqT.of upd_same, rfl, _, _, rfl, _, _, rfl, rfl, rfl, _, rfl, _, rfl, _, _, rfl, rfl, p.appB (Kp.new hT) ?_ ?_⟩
          · rw [take_snoc (show (ns.zip (ns.drop 1))[i]? = some (x, y) from List.getElem?_zip_eq_some.mpr ⟨hx2, hy2⟩), List.map_append]
            rfl
          · rw [List.length_map, List.length_take, List.length_zip]
            omega
        · have hD2' := p.endB
          have el : min (ns.map V.int).length ((ns.drop 1).map V.int).length = (ns.zip (ns.drop 1)).length := by
            rw [List.length_map, List.length_map, List.length_zip]
          rw [el, List.take_length] at hD2'
          refine ⟨D2, _, rfl, SqL.of hD2', _, -2, rfl, p.tab, fun hb2 => ?_, fun hb2 => ?_⟩
          · rw [List.all_map] at hb2
            have ok : listedOk ns = true := by
              unfold listedOk
              rw [Bool.and_eq_true]
              exact ⟨hb1, hb2⟩
            have k3 := kk.trans p.kp
            exact ⟨_, rfl, a, _, rfl, .inl (SqL.of (p.kp.lst ha2)), fun l hl0 => k1 ok _ l (k3.trans (Kp.new hl0)) (tab_new p.tab hl0) ((NL.new hl0).back k3) upd_same⟩
          · rw [List.all_map] at hb2
            refine (k2 ?_).on (kk.trans p.kp)
            unfold listedOk
            rw [Bool.and_eq_false_iff]
            exact .inr hb2
      · rw [List.all_map] at hb1
        refine (k2 ?_).on p.kp
        unfold listedOk
        rw [Bool.and_eq_false_iff]
        exact .inl hb1
/-! a call inside a try -/
theorem pe_fnS {X : Cx} {CX : CXT} {k : Nat} {x : Str} {ps : List Str} {sp : Sp} {E : L2.St → XK} {p pos : Pos} {e : Expr} {es : List Expr} {t : TA} (F : Fn X.prog X.w X.K X.mg X.base CX k x ps sp) (hr : Room k X.A) (hx : ∀ σ, PassesAt CX X σ (E σ)) (ha : PA X (e :: es) t) (hg : Gl X x := by rfl) (hdb : (x == ("__debug__" : Str)) = false := by decide)
    (he : starEach (e :: es) X.env = (false, eval e X.env) :: starEach es X.env := by rfl) (hpl : (backTo pos (starEach es X.env)).any (·.1) = false := by rfl) : PE X (.Call (.Name x p) (e :: es) [] pos) (tCallS sp E t) := by
  obtain ⟨f, fd, h1, h2, h3, h4⟩ := F.ex
  exact pe_callS h4 hr hg h1 h2 h3 hx ha hdb he hpl
/-! read -/
def spRead (J RF : Addr) : Sp := fun vs H Q E => ∃ (a : Addr) (t : List Nat), vs = [.ref a] ∧ IL H a (up t) ∧ t.length ≤ 2500 ∧ (∀ c ∈ t, c < 256) ∧ Tab J H ∧ (∀ s, readI t = some s → ∀ H' p, Kp J H H' → Tab J H' → NL H p → IL H' p s → Q (.ref p) H') ∧ (readI t = none → RefX J RF E H (-2))
theorem sc_read : FnScope ["row"] ["row"] (defScope (top 75)) := ⟨rfl, rfl, rfl, by decide +kernel, rfl, by decide +kernel, by decide +kernel⟩
theorem ok_read (d : DefAt K "read" (top 75)) (G : Gm K mg) (R : RfF K mg RF) (N : NtF K mg NT) (gT : GC mg "NO_FORM" (.int (-2))) (F : Fn P w K mg base (L2N.CX P w) 4 "set_of" ["some"] (spSet J NT)) : Fn P w K mg base (L2.CX P w) 5 "read" ["row"] (spRead J RF) := by
  obtain ⟨fI, fd, i1, i2, FI⟩ := R.i
  refine d.fnG G sc_read (fun _ _ _ _ _ _ us hl => match us, hl with | [_], _ => rfl) (fun vs H Q E h => ?_) (fun f cdv A outer s H vs Q E hr h => ?_)
  · obtain ⟨a, ns, rfl, _⟩ := h
    rfl
  · obtain ⟨a, t, rfl, ha, hl, hby, tb, k1, k2⟩ := h
    have tk : L2.Takes (cxOf (L2.CX P w) P w K mg base ["row"] "read" (defScope (top 75)) f cdv A outer s H E) (fun cls d _ H => E cls d H) := L2.takes_of rfl rfl rfl rfl
    refine ⟨_, pss_one (L2H.ps_try_onlyX (c := .ref NT) (Wout := fun cls d _ H => E cls d H) (tb := fun W => tRet (tCallS (spSet J NT) (WE W) (tCons (tVar 0) tNil))) (ts := fun _ _ _ _ σ H => tMkO RF (spRI RF) [] (tCons (tC (.int (-2))) tNil) σ H fun cls d H' => E cls d H') rfl rfl ⟨rfl, by decide, .inl N.g⟩ (L2H.passesAt_of rfl) tk
        (fun W pn xe tkN _ _ => pss_one (ps_ret (pe_fnS F hr (fun σ => L2N.passAt tkN σ) (pa_cons (pv 0) pa_nil))))
        (fun a oe cls d pn hz hf tkS hot => pss_one (L2H.ps_raiseH hot tkS (L2H.PMk5.pmk (L2H.pmk5_oexH R.T i1 i2 (ok_riH FI R) (L2H.roomH_mark (hr.mono (by decide)) _) hot (ri_binds FI) pass0 (by rfl) R.g (pa_cons (pe_gcv rfl gT) pa_nil)))))), ?_⟩
    refine ⟨_, rfl, a, t, rfl, ha, hl, hby, tb, fun H' kp tp => ?_⟩
    cases e : readI t with
    | some s => exact fun p np hp => k1 s e H' p kp tp np hp
    | none => exact ⟨true, N.y, fun _ a0 _ => ⟨by show 1 ≤ 1000; decide, mk_ref tp ((k2 e).on kp)⟩, fun h => by cases h⟩
end
end Ms
end

/-! text M7 -/
section
set_option linter.all false
set_option maxRecDepth 100000
namespace Ms
open Vabita
theorem has_head {a : Nat} {r : List Nat} (hp : IncN (a :: r)) : has (a :: r) a = true := by
  obtain ⟨y, hy, e⟩ : ∃ y ∈ pieces (a :: r), y.1 = a := by
    cases r with
    | nil => exact ⟨(a, none), by simp [pieces], rfl⟩
    | cons b q => exact ⟨(a, some b), by simp [pieces], rfl⟩
  have h3 := has_at hp hy
  rw [e] at h3
  exact h3
theorem prev_some {p : List Nat} (hp : IncN p) (t : Nat) : (prevIn p t).isSome = true ↔ ∃ v, v ≤ t ∧ has p v = true := by
  obtain ⟨h1, h2⟩ := prev_spec hp t
  cases e : prevIn p t with
  | none =>
    constructor
    · intro h; cases h
    · rintro ⟨v, hv, hh⟩
      rw [h2 e v hv] at hh
      cases hh
  | some u =>
    obtain ⟨g1, g2, _⟩ := h1 u e
    exact ⟨fun _ => ⟨u, g1, g2⟩, fun _ => rfl⟩
theorem next_some {p : List Nat} (hp : IncN p) (t : Nat) : (nextIn p t).isSome = true ↔ ∃ v, t ≤ v ∧ has p v = true := by
  obtain ⟨h1, h2⟩ := next_spec hp t
  cases e : nextIn p t with
  | none =>
    constructor
    · intro h; cases h
    · rintro ⟨v, hv, hh⟩
      rw [h2 e v hv] at hh
      cases hh
  | some u =>
    obtain ⟨g1, g2, _⟩ := h1 u e
    exact ⟨fun _ => ⟨u, g1, g2⟩, fun _ => rfl⟩
theorem m_hull {p : Bounds} (hp : IncN p) : hullI (up p) = up (hull p) := by
  cases p with
  | nil => rfl
  | cons a r =>
    have hne : (a :: r) ≠ [] := by simp
    obtain ⟨q, z, eq⟩ : ∃ q z, a :: r = q ++ [z] := ⟨(a :: r).dropLast, (a :: r).getLast hne, (List.dropLast_concat_getLast hne).symm⟩
    have hmin : ∀ b ∈ a :: r, a ≤ b := fun b hb => by
      rcases List.mem_cons.mp hb with rfl | hb
      · exact Nat.le_refl _
      · exact Nat.le_of_lt (List.rel_of_pairwise_cons hp hb)
    have hi := hp
    rw [eq] at hi
    have hlt : ∀ b ∈ q, b < z := fun b hb => (List.pairwise_append.mp hi).2.2 b hb z (by simp)
    have hz : z ∈ a :: r := by rw [eq]; simp
    have hall : ∀ v, z ≤ v → has (a :: r) v = endless (a :: r) := fun v hv => by
      rw [← has_cast, ← end_cast]
      refine hasI_all fun b hb => ?_
      obtain ⟨n, hn, rfl⟩ := List.mem_map.mp hb
      rw [eq] at hn
      rcases List.mem_append.mp hn with h | h
      · have := hlt n h
        omega
      · simp at h
        omega
    have prev : ∀ t, (prevIn (a :: r) t).isSome = decide (a ≤ t) := fun t => by
      rw [Bool.eq_iff_iff, prev_some hp, decide_eq_true_iff]
      constructor
      · rintro ⟨v, hv, hh⟩
        obtain ⟨y, hy, g1, _⟩ := (has_iff hp v).mp hh
        have := hmin _ (pc_facts hp hy).1
        omega
      · intro h
        exact ⟨a, h, has_head hp⟩
    have hd : (up (a :: r)).headD 0 = (a : Int) := rfl
    have hl : (up (a :: r)).getLastD 0 = (z : Int) := by
      rw [eq]
      unfold up
      rw [List.map_append]
      exact List.getLastD_concat ..
    unfold hullI hull
    rw [if_neg (by simp [up]), hd, hl, end_cast]
    cases he : endless (a :: r) with
    | true =>
      rw [if_pos rfl]
      refine normal_bounds (by simp) (fun b hb => by simp at hb; omega) (fun t => ?_) fun b hb => by simp at hb; subst hb; simp
      rw [prev]
      have : (nextIn (a :: r) t).isSome = true := by
        rw [next_some hp]
        exact ⟨max t z, by omega, by rw [hall _ (by omega), he]⟩
      rw [this, Bool.and_true, hasI_cons, hasI_nil]
      by_cases c : a ≤ t
      · simp [c]
      · simp [c]
    | false =>
      rw [if_neg Bool.false_ne_true]
      have hz1 : has (a :: r) z = false := by rw [hall z (Nat.le_refl _), he]
      have hz0 : 0 < z := by
        cases z with
        | zero =>
          rw [has_zero hp, decide_eq_true hz] at hz1
          cases hz1
        | succ n => omega
      have hb : has (a :: r) (z - 1) = true := by
        have hs := has_step hp (z - 1)
        rw [show z - 1 + 1 = z by omega, hz1, decide_eq_true hz] at hs
        cases e2 : has (a :: r) (z - 1) with
        | true => rfl
        | false => rw [e2] at hs; cases hs
      have haz : a < z := by
        have := hmin z hz
        by_cases c : a = z
        · rw [← c, has_head hp] at hz1
          cases hz1
        · omega
      have next : ∀ t, (nextIn (a :: r) t).isSome = decide (t < z) := fun t => by
        rw [Bool.eq_iff_iff, next_some hp, decide_eq_true_iff]
        constructor
        · rintro ⟨v, hv, hh⟩
          by_cases c : z ≤ v
          · rw [hall v c, he] at hh
            cases hh
          · omega
        · intro h
          exact ⟨z - 1, by omega, hb⟩
      refine normal_bounds ?_ (fun b hb => by simp at hb; omega) (fun t => ?_) fun b hb => ?_
      · simp
        omega
      · rw [prev, next, hasI_cons, hasI_cons, hasI_nil]
        by_cases c1 : a ≤ t
        · by_cases c2 : z ≤ t
          · have : ¬ t < z := by omega
            simp [c1, c2, this]
          · have : t < z := by omega
            simp [c1, c2, this]
        · have : ¬ z ≤ t := by omega
          simp [c1, this]
      · simp at hb
        rcases hb with rfl | rfl
        · simp
        · simpa using hz
theorem ord_cases (i j : Int) : (i < j ∧ ordI (some i) (some j) = -1) ∨ (i = j ∧ ordI (some i) (some j) = 0) ∨ (j < i ∧ ordI (some i) (some j) = 1) := by
  unfold ordI bI
  by_cases h1 : i < j
  · have : ¬ j < i := by omega
    exact .inl ⟨h1, by simp [h1, this]⟩
  · by_cases h2 : j < i
    · exact .inr (.inr ⟨h2, by simp [h1, h2]⟩)
    · exact .inr (.inl ⟨by omega, by simp [h1, h2]⟩)
theorem m_allen {x y : Piece} (hx : ∀ e, x.2 = some e → x.1 < e ∧ e ≤ LAST) (hy : ∀ e, y.2 = some e → y.1 < e ∧ e ≤ LAST) (h1 : x.1 ≤ LAST) (h2 : y.1 ≤ LAST) : allenI (castP x) (castP y) = (allenOf x.1 (endOf x) y.1 (endOf y) : Int) := by
  obtain ⟨a, b⟩ := x
  obtain ⟨c, d⟩ := y
  have ac := ord_cases (a : Int) (c : Int)
  cases b with
  | none =>
    cases d with
    | none =>
      have e1 : ¬ (LAST + 1 < c) := by show ¬ (LAST + 1 < c); have : c ≤ LAST := h2; omega
      have e2 : ¬ (LAST + 1 = c) := by have : c ≤ LAST := h2; omega
      have e3 : ¬ (LAST + 1 < a) := by have : a ≤ LAST := h1; omega
      have e4 : ¬ (LAST + 1 = a) := by have : a ≤ LAST := h1; omega
      show allenI ((a : Int), none) ((c : Int), none) = ((allenOf a (LAST + 1) c (LAST + 1) : Nat) : Int)
      unfold allenI apartI allenOf
      simp only [Option.isSome, Bool.false_and, if_neg Bool.false_ne_true, if_neg e1, if_neg e2, if_neg e3, if_neg e4]
      rcases ac with ⟨h, e⟩ | ⟨h, e⟩ | ⟨h, e⟩ <;> rw [e]
      · rw [if_pos (show a < c by omega)]; simp [ordI, bI]
      · rw [if_neg (show ¬ a < c by omega), if_pos (show a = c by omega)]; simp [ordI, bI]
      · rw [if_neg (show ¬ a < c by omega), if_neg (show ¬ a = c by omega)]; simp [ordI, bI]
    | some d =>
      have hd := hy d rfl
      have hcd : c < d := hd.1
      have hdl : d ≤ LAST := hd.2
      have e1 : ¬ (LAST + 1 < c) := by omega
      have e2 : ¬ (LAST + 1 = c) := by omega
      have e5 : ¬ (LAST + 1 < d) := by omega
      have e6 : ¬ (LAST + 1 = d) := by omega
      have da := ord_cases (d : Int) (a : Int)
      show allenI ((a : Int), none) ((c : Int), some (d : Int)) = ((allenOf a (LAST + 1) c d : Nat) : Int)
      unfold allenI apartI allenOf
      simp only [Option.isSome, Bool.false_and, Bool.true_and, if_neg Bool.false_ne_true, if_neg e1, if_neg e2]
      rcases da with ⟨h, e⟩ | ⟨h, e⟩ | ⟨h, e⟩ <;> rw [e]
      · rw [if_pos (show d < a by omega)]; simp
      · rw [if_neg (show ¬ d < a by omega), if_pos (show d = a by omega)]; simp
      · rw [if_neg (show ¬ d < a by omega), if_neg (show ¬ d = a by omega)]
        rcases ac with ⟨h, e⟩ | ⟨h, e⟩ | ⟨h, e⟩ <;> rw [e]
        · rw [if_pos (show a < c by omega), if_neg e5, if_neg e6]; simp [ordI, bI]
        · rw [if_neg (show ¬ a < c by omega), if_pos (show a = c by omega), if_neg e5, if_neg e6]; simp [ordI, bI]
        · rw [if_neg (show ¬ a < c by omega), if_neg (show ¬ a = c by omega), if_neg e5, if_neg e6]; simp [ordI, bI]
  | some b =>
    have hb := hx b rfl
    have hab : a < b := hb.1
    have hbl : b ≤ LAST := hb.2
    have bc := ord_cases (b : Int) (c : Int)
    cases d with
    | none =>
      have e3 : ¬ (LAST + 1 < a) := by omega
      have e4 : ¬ (LAST + 1 = a) := by omega
      have e5 : b < LAST + 1 := by omega
      show allenI ((a : Int), some (b : Int)) ((c : Int), none) = ((allenOf a b c (LAST + 1) : Nat) : Int)
      unfold allenI apartI allenOf
      simp only [Option.isSome, Bool.false_and, Bool.true_and, if_neg Bool.false_ne_true, if_neg e3, if_neg e4]
      rcases bc with ⟨h, e⟩ | ⟨h, e⟩ | ⟨h, e⟩ <;> rw [e]
      · rw [if_pos (show b < c by omega)]; simp
      · rw [if_neg (show ¬ b < c by omega), if_pos (show b = c by omega)]; simp
      · rw [if_neg (show ¬ b < c by omega), if_neg (show ¬ b = c by omega)]
        rcases ac with ⟨h, e⟩ | ⟨h, e⟩ | ⟨h, e⟩ <;> rw [e]
        · rw [if_pos (show a < c by omega), if_pos e5]; simp [ordI, bI]
        · rw [if_neg (show ¬ a < c by omega), if_pos (show a = c by omega), if_pos e5]; simp [ordI, bI]
        · rw [if_neg (show ¬ a < c by omega), if_neg (show ¬ a = c by omega), if_pos e5]; simp [ordI, bI]
    | some d =>
      have hd := hy d rfl
      have hcd : c < d := hd.1
      have da := ord_cases (d : Int) (a : Int)
      have bd := ord_cases (b : Int) (d : Int)
      show allenI ((a : Int), some (b : Int)) ((c : Int), some (d : Int)) = ((allenOf a b c d : Nat) : Int)
      unfold allenI apartI allenOf
      simp only [Option.isSome, Bool.true_and]
      rcases bc with ⟨h, e⟩ | ⟨h, e⟩ | ⟨h, e⟩ <;> rw [e]
      · rw [if_pos (show b < c by omega)]; simp
      · rw [if_neg (show ¬ b < c by omega), if_pos (show b = c by omega)]; simp
      · rw [if_neg (show ¬ b < c by omega), if_neg (show ¬ b = c by omega)]
        rcases da with ⟨h, e⟩ | ⟨h, e⟩ | ⟨h, e⟩ <;> rw [e]
        · rw [if_pos (show d < a by omega)]; simp
        · rw [if_neg (show ¬ d < a by omega), if_pos (show d = a by omega)]; simp
        · rw [if_neg (show ¬ d < a by omega), if_neg (show ¬ d = a by omega)]
          rcases ac with ⟨h, e⟩ | ⟨h, e⟩ | ⟨h, e⟩ <;> rw [e] <;> rcases bd with ⟨g, f⟩ | ⟨g, f⟩ | ⟨g, f⟩ <;> rw [f]
          · rw [if_pos (show a < c by omega), if_pos (show b < d by omega)]; simp
          · rw [if_pos (show a < c by omega), if_neg (show ¬ b < d by omega), if_pos (show b = d by omega)]; simp
          · rw [if_pos (show a < c by omega), if_neg (show ¬ b < d by omega), if_neg (show ¬ b = d by omega)]; simp
          · rw [if_neg (show ¬ a < c by omega), if_pos (show a = c by omega), if_pos (show b < d by omega)]; simp
          · rw [if_neg (show ¬ a < c by omega), if_pos (show a = c by omega), if_neg (show ¬ b < d by omega), if_pos (show b = d by omega)]; simp
          · rw [if_neg (show ¬ a < c by omega), if_pos (show a = c by omega), if_neg (show ¬ b < d by omega), if_neg (show ¬ b = d by omega)]; simp
          · rw [if_neg (show ¬ a < c by omega), if_neg (show ¬ a = c by omega), if_pos (show b < d by omega)]; simp
          · rw [if_neg (show ¬ a < c by omega), if_neg (show ¬ a = c by omega), if_neg (show ¬ b < d by omega), if_pos (show b = d by omega)]; simp
          · rw [if_neg (show ¬ a < c by omega), if_neg (show ¬ a = c by omega), if_neg (show ¬ b < d by omega), if_neg (show ¬ b = d by omega)]; simp
end Ms
end

/-! text M0 -/
section
set_option linter.all false
set_option maxRecDepth 100000
namespace Ms
open Vabita
def wordS : W4 → Bounds → Bounds → Bounds
  | .either => either
  | .both => both
  | .less => less
  | .odd => odd
theorem m_comb (o : W4) (p q : Bounds) {marks : List Int} (hm : Marks (up p) (up q) marks) : combOf (op2 o.op (up p) (up q)) marks = up (wordS o p q) := by
  cases o <;> exact comb_spec rfl hm
theorem inc_word (o : W4) (p q : Bounds) : IncN (wordS o p q) := by cases o <;> exact inc_normal _ _
theorem m_next {p : Bounds} (hp : IncN p) (t : Nat) : nextI (up p) (t : Int) = (nextIn p t).map fun n => (n : Int) := (next_core hp t).trans (by cases nextIn p t <;> rfl)
theorem m_prev {p : Bounds} (hp : IncN p) (t : Nat) : prevI (up (less p [t + 1])) = (prevIn p t).map fun n => (n : Int) := (prev_core hp t).trans (by cases prevIn p t <;> rfl)
theorem m_nth {p : Bounds} (hp : IncN p) (n : Nat) : nthP (pcs (up p)) (n : Int) = (nth (pieces p) n).map fun n => (n : Int) := (nth_core hp n).trans (by cases nth (pieces p) n <;> rfl)
theorem num_eq (x : Int) : num x = if inR x = true then some x.toNat else none := by
  unfold num inR LAST
  by_cases c : 0 ≤ x ∧ x ≤ 1000000000
  · rw [if_pos (show 0 ≤ x ∧ x ≤ ((1000000000 : Nat) : Int) from c), if_pos (by simp [c.1, c.2])]
  · rw [if_neg (show ¬ (0 ≤ x ∧ x ≤ ((1000000000 : Nat) : Int)) from c), if_neg (by simp; omega)]
theorem inc_zip : ∀ {l : List Int}, l.all inR = true → increasing (l.map Int.toNat) = (l.zip (l.drop 1)).all fun x => decide (x.1 < x.2)
  | [], _ => rfl
  | [a], _ => rfl
  | a :: b :: r, h => by
    rw [List.all_cons, Bool.and_eq_true] at h
    have ih := inc_zip (l := b :: r) h.2
    have hb := h.2
    rw [List.all_cons, Bool.and_eq_true] at hb
    have h1 := h.1
    have h2 := hb.1
    unfold inR at h1 h2
    rw [Bool.and_eq_true, decide_eq_true_iff, decide_eq_true_iff] at h1 h2
    show (decide (a.toNat < b.toNat) && increasing ((b :: r).map Int.toNat)) = (decide (a < b) && ((b :: r).zip ((b :: r).drop 1)).all fun x => decide (x.1 < x.2))
    rw [ih]
    congr 1
    rw [decide_eq_decide]
    omega
theorem m_listed {row : List Int} : (listedOk row = true → boundsOf row = some (row.map Int.toNat) ∧ up (row.map Int.toNat) = row) ∧ (listedOk row = false → boundsOf row = none) := by
  have hall : (row.all fun x => (num x).isSome) = row.all inR := by
    congr 1
    funext x
    rw [num_eq]
    cases inR x <;> rfl
  unfold boundsOf listedOk
  rw [hall]
  constructor
  · intro h
    rw [Bool.and_eq_true] at h
    rw [inc_zip h.1, h.1, h.2]
    refine ⟨rfl, ?_⟩
    unfold up
    rw [List.map_map]
    conv => rhs; rw [← List.map_id row]
    apply List.map_congr_left
    intro n hn
    have := List.all_eq_true.mp h.1 n hn
    unfold inR at this
    rw [Bool.and_eq_true] at this
    have := of_decide_eq_true this.1
    simp
    omega
  · intro h
    cases e : row.all inR with
    | false => rfl
    | true =>
      rw [e, Bool.true_and] at h
      rw [inc_zip e, h]
      rfl
theorem inc_of : ∀ {l : List Nat}, increasing l = true → IncN l
  | [], _ => .nil
  | [a], _ => by simp [IncN]
  | a :: b :: r, h => by
    rw [increasing, Bool.and_eq_true, decide_eq_true_iff] at h
    have ih := inc_of h.2
    refine List.pairwise_cons.mpr ⟨fun x hx => ?_, ih⟩
    rcases List.mem_cons.mp hx with rfl | hx
    · exact h.1
    · have := List.rel_of_pairwise_cons ih hx
      omega
theorem inc_lasting {p : Bounds} (hp : IncN p) (n : Nat) : IncN (lasting p n) := by
  have hc := pcs_chain (inc_cast hp)
  rw [pcs_up] at hc
  exact (sub_ok (l := (pieces p).filter (atLeast n)) ⟨hc.bef.sublist (List.filter_sublist.map castP), fun x hx => by
    obtain ⟨y, hy, rfl⟩ := List.mem_map.mp hx
    exact hc.full _ (List.mem_map.mpr ⟨y, (List.mem_filter.mp hy).1, rfl⟩)⟩).1
theorem inc_read {t : List Nat} {p : Bounds} (h : Vabita.read t = some p) : IncN p := by
  unfold Vabita.read at h
  split at h
  · cases h
  · split at h
    · cases h
    · next ws _ =>
      split at h
      · cases h; exact .nil
      · split at h
        · cases h; simp [IncN]
        · cases e : piecesOf (wordsOf t) with
          | none => rw [e] at h; cases h
          | some l =>
            rw [e] at h
            cases h
            exact inc_normal _ _
end Ms
end

/-! text U3 -/
section
set_option Elab.async false
set_option linter.all false
set_option maxRecDepth 100000
set_option maxHeartbeats 4000000
namespace Ms
open PySem PySem.Spec PyProof.Rows L2 HotX
/-- what a call that sets comes to -/
inductive Res
  | ok (p : List Nat)
  | no (n : Int)
/-- a set is handed back, or the call refused -/
def Gives (J RF : Addr) (H : Hp) (Q : VK) (E : XK) (r : Res) : Prop := match r with
  | .ok p => ∀ H' a, Kp J H H' → Tab J H' → NL H a → IL H' a (up p) → Q (.ref a) H'
  | .no n => RefX J RF E H n
theorem up_len (p : List Nat) : (up p).length = p.length := by unfold up; rw [List.length_map]
section
variable {P : Program} {w : World} {K : PySem.W.Frag} {mg : Str → Option Value} {base : Heap} {J RF NT : Addr}
/-! runs -/
def runsS (x st le c : Nat) : Res := if 1 ≤ le ∧ le ≤ st ∧ c ≤ 32 then .ok (Vabita.every x st le c) else .no (-1)
def spRuns (J RF : Addr) : Sp := fun vs H Q E => ∃ (a : Addr) (x st le c : Nat), vs = [.ref a] ∧ IL H a (up [x, st, le, c]) ∧ Tab J H ∧ Gives J RF H Q E (runsS x st le c)
theorem sc_runs : FnScope ["numbers", "begin", "step", "length", "count"] ["numbers"] (defScope (top 76)) := ⟨rfl, rfl, rfl, by decide +kernel, rfl, by decide +kernel, by decide +kernel⟩
theorem ok_runs (d : DefAt K "runs" (top 76)) (G : Gm K mg) (gM : GC mg "MOST_RUNS" (.int 32)) (gT : GC mg "OUT_OF_RANGE" (.int (-1))) (F1 : Fn P w K mg base (L2.CX P w) 3 "need" ["truth", "number"] (spNeed J RF)) (F2 : Fn P w K mg base CX0 4 "every" ["begin", "step", "length", "count"] (spEvery J)) :
    Fn P w K mg base (L2.CX P w) 5 "runs" ["numbers"] (spRuns J RF) := by
  refine d.fnG G sc_runs (fun _ _ _ _ _ _ us hl => match us, hl with | [_], _ => rfl) (fun vs H Q E h => ?_) (fun f cdv A outer s H vs Q E hr h => ?_)
  · obtain ⟨a, x, st, le, c, rfl, _⟩ := h
    rfl
  · obtain ⟨a, x, st, le, c, rfl, ha, tb, k⟩ := h
    have hr3 := hr.mono (show 3 ≤ 4 by decide)
    have tk : L2.Takes (cxOf (L2.CX P w) P w K mg base ["numbers", "begin", "step", "length", "count"] "runs" (defScope (top 76)) f cdv A outer s H E) (fun cls d _ H => E cls d H) := L2.takes_of rfl rfl rfl rfl
    have px : Passes (L2.CX P w) (cxOf (L2.CX P w) P w K mg base ["numbers", "begin", "step", "length", "count"] "runs" (defScope (top 76)) f cdv A outer s H E) E := L2.passes_call tk (fun _ _ _ _ h => h)
    refine ⟨_, pss_cons (ps_asg (pv 0) (pg_lst rfl (pgs_cons (pg_name (i := 1) sc_runs.nd rfl (Or.inl rfl)) (pgs_cons (pg_name (i := 2) sc_runs.nd rfl (Or.inl rfl)) (pgs_cons (pg_name (i := 3) sc_runs.nd rfl (Or.inl rfl)) (pgs_cons (pg_name (i := 4) sc_runs.nd rfl (Or.inl rfl)) pgs_nil))))))
      (pss_cons (ps_expr (pe_fnX F1 hr3 px (pa_cons (pe_and (pe_chain op_lt op_le pe_int (pv 3) (pv 2)) (pe_one (pe_cmp (pc_le (pv 4) (pe_gcv rfl gM))))) (pa_cons (pe_gcv rfl gT) pa_nil))))
      (pss_one (ps_ret (pe_fn F2 hr (pa_cons (pv 1) (pa_cons (pv 2) (pa_cons (pv 3) (pa_cons (pv 4) pa_nil)))))))), ?_⟩
    refine ⟨_, rfl, a, _, rfl, SqL.of ha, rfl, _, _, rfl, _, _, rfl, _, _, rfl, _, _, rfl, rfl, ?_⟩
    have no : ¬ (1 ≤ le ∧ le ≤ st ∧ c ≤ 32) → RefX J RF E H (-1) := fun h => by
      unfold runsS at k
      rw [if_neg h] at k
      exact k
    refine ⟨_, rfl, _, _, rfl, rfl, _, rfl, ?_⟩
    by_cases c1 : 1 ≤ le
    · refine ifT (decide_eq_true (show (0 : Int) < (le : Int) by omega)) ⟨_, rfl, _, _, rfl, rfl, _, rfl, ?_⟩
      by_cases c2 : le ≤ st
      · refine ifT (decide_eq_true (show (le : Int) ≤ (st : Int) by omega)) ⟨_, rfl, _, _, rfl, rfl, _, -1, rfl, tb, fun hb => ?_, fun hb => ?_⟩
        · have hc : c ≤ 32 := by
            have : ((c : Nat) : Int) ≤ 32 := of_decide_eq_true hb
            omega
          unfold runsS at k
          rw [if_pos ⟨c1, c2, hc⟩] at k
          refine ⟨_, rfl, _, rfl, _, rfl, _, rfl, (x : Int), (st : Int), (le : Int), c, rfl, by omega, tb, fun H' p kp tp np hp => ?_⟩
          rw [m_every x st le c c1] at hp
          exact k H' p kp tp np hp
        · refine no fun h => ?_
          have : ¬ ((c : Nat) : Int) ≤ 32 := of_decide_eq_false hb
          omega
      · refine ifF (decide_eq_false (show ¬ (le : Int) ≤ (st : Int) by omega)) ⟨false, -1, rfl, tb, fun hb => (by cases hb), fun _ => no fun h => by omega⟩
    · refine ifF (decide_eq_false (show ¬ (0 : Int) < (le : Int) by omega)) (_root_.id ?_)
      exact ⟨_, rfl, ifF rfl ⟨false, -1, rfl, tb, fun hb => (by cases hb), fun _ => no fun h => by omega⟩⟩
/-! changed -/
def wordAt : Nat → W4
  | 5 => .either
  | 6 => .either
  | 7 => .less
  | 8 => .less
  | _ => .odd
def changedS (k : Nat) (p ns : List Nat) : Res := if (k = 5 ∨ k = 7) ∧ ¬ (ns.getD 0 0 < ns.getD 1 0) then .no (-1) else .ok (wordS (wordAt k) p ns)
def spChanged (J RF : Addr) : Sp := fun vs H Q E => ∃ (k : Nat) (a b : Addr) (p ns : List Nat), vs = [.int (k : Int), .ref a, .ref b] ∧ 5 ≤ k ∧ k ≤ 9 ∧ IL H a (up p) ∧ IL H b (up ns) ∧ p.length ≤ 100 ∧ ns.length ≤ 2 ∧ ((k = 5 ∨ k = 7) → ns.length = 2) ∧ Tab J H ∧ Gives J RF H Q E (changedS k p ns)
theorem sc_changed : FnScope ["kind", "held", "numbers"] ["kind", "held", "numbers"] (defScope (top 77)) := ⟨rfl, rfl, rfl, by decide +kernel, rfl, by decide +kernel, by decide +kernel⟩
def chK : List (Key × V) := [(.inl 5, .str "either"), (.inl 6, .str "either"), (.inl 7, .str "less"), (.inl 8, .str "less"), (.inl 9, .str "odd")]
theorem chK_get {k : Nat} (h1 : 5 ≤ k) (h2 : k ≤ 9) : valV (mergeK [] chK) (.inl (k : Int)) = some (V.str (wordAt k).str) := by
  have : k = 5 ∨ k = 6 ∨ k = 7 ∨ k = 8 ∨ k = 9 := by omega
  rcases this with rfl | rfl | rfl | rfl | rfl <;> rfl
theorem ok_changed (d : DefAt K "changed" (top 77)) (G : Gm K mg) (gT : GC mg "OUT_OF_RANGE" (.int (-1))) (F1 : Fn P w K mg base (L2.CX P w) 3 "need" ["truth", "number"] (spNeed J RF)) (F2 : Fn P w K mg base CX0 2 "combined" ["word", "one", "other"] (spComb J)) :
    Fn P w K mg base (L2.CX P w) 4 "changed" ["kind", "held", "numbers"] (spChanged J RF) := by
  refine d.fnG G sc_changed (fun _ _ _ _ _ _ us hl => match us, hl with | [_, _, _], _ => rfl) (fun vs H Q E h => ?_) (fun f cdv A outer s H vs Q E hr h => ?_)
  · obtain ⟨k, a, b, p, ns, rfl, _⟩ := h
    rfl
  · obtain ⟨kd, a, b, p, ns, rfl, h5, h9, ha, hb, hl, hn, h2, tb, k⟩ := h
    have hr2 := hr.mono (show 2 ≤ 3 by decide)
    have tk : L2.Takes (cxOf (L2.CX P w) P w K mg base ["kind", "held", "numbers"] "changed" (defScope (top 77)) f cdv A outer s H E) (fun cls d _ H => E cls d H) := L2.takes_of rfl rfl rfl rfl
    have px : Passes (L2.CX P w) (cxOf (L2.CX P w) P w K mg base ["kind", "held", "numbers"] "changed" (defScope (top 77)) f cdv A outer s H E) E := L2.passes_call tk (fun _ _ _ _ h => h)
    refine ⟨_, pss_cons (ps_if (PW.pt (pw_or (pt_cmp (pc_eqI (pv 0) pe_int)) (pw_or1 (pt_cmp (pc_eqI (pv 0) pe_int))))) (pss_one (ps_expr (pe_fnX F1 hr px (pa_cons (pe_cmp (pc_lt (pe_ix ix_list (pv 2) pe_int (fun _ _ => rfl)) (pe_ix ix_list (pv 2) pe_int (fun _ _ => rfl)))) (pa_cons (pe_gcv rfl gT) pa_nil))))) pss_nil)
      (pss_one (ps_ret (pe_fn F2 hr2 (pa_cons (pe_dget (hu_of hr) (pe_disp (pps_cons pe_int pe_str (pps_cons pe_int pe_str (pps_cons pe_int pe_str (pps_cons pe_int pe_str (pps_cons pe_int pe_str pps_nil))))) rfl rfl (by simp) (by decide)) (pv 0) (fun _ _ => rfl)) (pa_cons (pv 1) (pa_cons (pv 2) pa_nil)))))), ?_⟩
    have fin : ((kd = 5 ∨ kd = 7) → ns.getD 0 0 < ns.getD 1 0) → (tRet (tCall (spComb J) [] E0 (tCons (tDGet (tDisp [(tC (.int 5), tC (.str "either")), (tC (.int 6), tC (.str "either")), (tC (.int 7), tC (.str "less")), (tC (.int 8), tC (.str "less")), (tC (.int 9), tC (.str "odd"))]) (tVar 0)) (tCons (tVar 1) (tCons (tVar 2) tNil))))) { nx := fun _ H' => Q .non H', rt := Q } [some (.int (kd : Int)), some (.ref a), some (.ref b)] H := fun hlt q hq => by
      refine ⟨upd_same, chK, rfl, by decide, ?_⟩
      rw [upd_upd]
      have kq : Kp J H (upd H q (.dK (mergeK [] chK))) := Kp.new hq
      refine ⟨_, rfl, q, V.str (wordAt kd).str, rfl, ?_, _, rfl, _, rfl, wordAt kd, a, b, up p, up ns, rfl, kq.lst ha, kq.lst hb, ?_, kq.tab tb, fun H' r marks kp tp np hm hr => ?_⟩
      · have := DGet.k (H := upd H q (.dK (mergeK [] chK))) (a := q) (kvs := mergeK [] chK) (k := .inl (kd : Int)) upd_same
        rw [chK_get h5 h9] at this
        exact this
      · rw [up_len, up_len]
        omega
      · rw [m_comb _ _ _ hm] at hr
        unfold changedS at k
        rw [if_neg (fun z => z.2 (hlt z.1))] at k
        exact k H' r (kq.trans kp) tp (np.back kq) hr
    refine ⟨_, rfl, _, _, rfl, rfl, _, rfl, ?_⟩
    have two : (kd = 5 ∨ kd = 7) → ∃ n0 n1, ns = [n0, n1] := fun z => by
      have := h2 z
      match ns, this with
      | [n0, n1], _ => exact ⟨n0, n1, rfl⟩
    have nd : (kd = 5 ∨ kd = 7) → (tDrop (tCall (spNeed J RF) [] E (tCons (tLt (tOp (rIxL K) (tVar 2) (tC (.int 0))) (tOp (rIxL K) (tVar 2) (tC (.int 1)))) (tCons (tC (.int (-1))) tNil)))) { nx := (tRet (tCall (spComb J) [] E0 (tCons (tDGet (tDisp [(tC (.int 5), tC (.str "either")), (tC (.int 6), tC (.str "either")), (tC (.int 7), tC (.str "less")), (tC (.int 8), tC (.str "less")), (tC (.int 9), tC (.str "odd"))]) (tVar 0)) (tCons (tVar 1) (tCons (tVar 2) tNil))))) { nx := fun _ H' => Q .non H', rt := Q }, rt := Q } [some (.int (kd : Int)), some (.ref a), some (.ref b)] H := fun z => by
      obtain ⟨n0, n1, rfl⟩ := two z
      refine ⟨_, rfl, b, _, 0, V.int n0, rfl, rfl, SqL.of hb, by exact atI_nat rfl, _, rfl, b, _, 1, V.int n1, rfl, rfl, SqL.of hb, by exact atI_nat rfl, _, _, rfl, rfl, _, -1, rfl, tb, fun hq => ?_, fun hq => ?_⟩
      · exact fin fun _ => by
          have := of_decide_eq_true hq
          show n0 < n1
          omega
      · unfold changedS at k
        rw [if_pos ⟨z, by
          have := of_decide_eq_false hq
          show ¬ n0 < n1
          omega⟩] at k
        exact k
    by_cases c5 : kd = 5
    · exact ifT (decide_eq_true (by omega)) (ifT rfl (nd (.inl c5)))
    · refine ifF (decide_eq_false (by omega)) ⟨_, rfl, _, _, rfl, rfl, _, rfl, ?_⟩
      by_cases c7 : kd = 7
      · exact ifT (decide_eq_true (by omega)) (nd (.inr c7))
      · exact ifF (decide_eq_false (by omega)) (fin fun z => by omega)
end
end Ms
end

/-! text U4 -/
section
set_option Elab.async false
set_option linter.all false
set_option maxRecDepth 100000
set_option maxHeartbeats 4000000
namespace Ms
open PySem PySem.Spec PyProof.Rows L2 HotX
/-- a register's set -/
structure OkS (p : List Nat) : Prop where
  inc : IncN p
  le : ∀ b ∈ p, b ≤ Vabita.LAST
  len : p.length ≤ 64
def mbS (k : Nat) (p : List Nat) (n : Nat) : List Nat :=
  if k = 15 then Vabita.later p n else if k = 16 then Vabita.earlier p n else if k = 17 then Vabita.recent p n else if k = 18 then Vabita.steady p n else if k = 19 then Vabita.soon p n else if k = 22 then Vabita.lasting p n else Vabita.fill p n
section
variable {P : Program} {w : World} {K : PySem.W.Frag} {mg : Str → Option Value} {base : Heap} {J RF NT W : Addr}
/-! made_by -/
def spMadeBy (J : Addr) : Sp := fun vs H Q _ => ∃ (k : Nat) (a : Addr) (p : List Nat) (n : Nat), vs = [.int (k : Int), .ref a, .int (n : Int)] ∧ IL H a (up p) ∧ OkS p ∧ Tab J H ∧
  ∀ H' r, Kp J H H' → Tab J H' → NL H r → IL H' r (up (mbS k p n)) → Q (.ref r) H'
theorem sc_madeby : FnScope ["kind", "held", "n"] ["kind", "held", "n"] (defScope (top 78)) := ⟨rfl, rfl, rfl, by decide +kernel, rfl, by decide +kernel, by decide +kernel⟩
theorem ok_madeby (d : DefAt K "made_by" (top 78)) (G : Gm K mg) (F1 : Fn P w K mg base CX0 1 "later" ["bounds", "n"] (spLaterS J)) (F2 : Fn P w K mg base CX0 4 "earlier" ["bounds", "n"] (spEarly J)) (F3 : Fn P w K mg base CX0 4 "recent" ["bounds", "n"] (spMk J recentI)) (F4 : Fn P w K mg base CX0 4 "steady" ["bounds", "n"] (spMk J steadyI))
    (F5 : Fn P w K mg base CX0 4 "soon" ["bounds", "n"] (spMk J soonI)) (F6 : Fn P w K mg base CX0 4 "lasting" ["bounds", "n"] (spMk J lastingI)) (F7 : Fn P w K mg base CX0 4 "filled" ["bounds", "n"] (spFill J)) :
    Fn P w K mg base CX0 5 "made_by" ["kind", "held", "n"] (spMadeBy J) := by
  refine d.fn G sc_madeby (fun _ _ _ _ _ _ us hl => match us, hl with | [_, _, _], _ => rfl) (fun vs H Q E h => ?_) (fun f cdv A outer s H vs Q E hr h => ?_)
  · obtain ⟨k, a, p, n, rfl, _⟩ := h
    rfl
  · obtain ⟨kd, a, p, n, rfl, ha, hp, tb, k⟩ := h
    have hr1 := hr.mono (show 1 ≤ 4 by decide)
    refine ⟨_, pss_cons (ps_if (pt_cmp (pc_eqI (pv 0) pe_int)) (pss_one (ps_ret (pe_fn F1 hr1 (pa_cons (pv 1) (pa_cons (pv 2) pa_nil))))) pss_nil)
      (pss_cons (ps_if (pt_cmp (pc_eqI (pv 0) pe_int)) (pss_one (ps_ret (pe_fn F2 hr (pa_cons (pv 1) (pa_cons (pv 2) pa_nil))))) pss_nil)
      (pss_cons (ps_if (pt_cmp (pc_eqI (pv 0) pe_int)) (pss_one (ps_ret (pe_fn F3 hr (pa_cons (pv 1) (pa_cons (pv 2) pa_nil))))) pss_nil)
      (pss_cons (ps_if (pt_cmp (pc_eqI (pv 0) pe_int)) (pss_one (ps_ret (pe_fn F4 hr (pa_cons (pv 1) (pa_cons (pv 2) pa_nil))))) pss_nil)
      (pss_cons (ps_if (pt_cmp (pc_eqI (pv 0) pe_int)) (pss_one (ps_ret (pe_fn F5 hr (pa_cons (pv 1) (pa_cons (pv 2) pa_nil))))) pss_nil)
      (pss_cons (ps_if (pt_cmp (pc_eqI (pv 0) pe_int)) (pss_one (ps_ret (pe_fn F6 hr (pa_cons (pv 1) (pa_cons (pv 2) pa_nil))))) pss_nil)
      (pss_one (ps_ret (pe_fn F7 hr (pa_cons (pv 1) (pa_cons (pv 2) pa_nil)))))))))), ?_⟩
    have l3 : (up p).length ≤ 3000 := by
      rw [up_len]
      have := hp.len
      omega
    unfold mbS at k
    refine ⟨_, rfl, _, _, rfl, rfl, _, rfl, ?_⟩
    by_cases c1 : kd = 15
    · rw [if_pos c1] at k
      refine ifT (decide_eq_true (by omega)) ⟨_, rfl, _, rfl, a, _, (n : Int), rfl, ha, l3, tb, fun H' r kp tp np hr => ?_⟩
      rw [m_later hp.inc] at hr
      exact k H' r kp tp np hr
    rw [if_neg c1] at k
    refine ifF (decide_eq_false (by omega)) ⟨_, rfl, _, _, rfl, rfl, _, rfl, ?_⟩
    by_cases c2 : kd = 16
    · rw [if_pos c2] at k
      refine ifT (decide_eq_true (by omega)) ⟨_, rfl, _, rfl, a, _, (n : Int), rfl, ha, l3, tb, fun H' r kp tp np hr => ?_⟩
      rw [m_earlier hp.inc] at hr
      exact k H' r kp tp np hr
    rw [if_neg c2] at k
    refine ifF (decide_eq_false (by omega)) ⟨_, rfl, _, _, rfl, rfl, _, rfl, ?_⟩
    by_cases c3 : kd = 17
    · rw [if_pos c3] at k
      refine ifT (decide_eq_true (by omega)) ⟨_, rfl, _, rfl, a, _, (n : Int), rfl, ha, l3, tb, fun H' r kp tp np hr => ?_⟩
      rw [m_recent hp.inc] at hr
      exact k H' r kp tp np hr
    rw [if_neg c3] at k
    refine ifF (decide_eq_false (by omega)) ⟨_, rfl, _, _, rfl, rfl, _, rfl, ?_⟩
    by_cases c4 : kd = 18
    · rw [if_pos c4] at k
      refine ifT (decide_eq_true (by omega)) ⟨_, rfl, _, rfl, a, _, (n : Int), rfl, ha, l3, tb, fun H' r kp tp np hr => ?_⟩
      rw [m_steady hp.inc] at hr
      exact k H' r kp tp np hr
    rw [if_neg c4] at k
    refine ifF (decide_eq_false (by omega)) ⟨_, rfl, _, _, rfl, rfl, _, rfl, ?_⟩
    by_cases c5 : kd = 19
    · rw [if_pos c5] at k
      refine ifT (decide_eq_true (by omega)) ⟨_, rfl, _, rfl, a, _, (n : Int), rfl, ha, l3, tb, fun H' r kp tp np hr => ?_⟩
      rw [m_soon hp.inc] at hr
      exact k H' r kp tp np hr
    rw [if_neg c5] at k
    refine ifF (decide_eq_false (by omega)) ⟨_, rfl, _, _, rfl, rfl, _, rfl, ?_⟩
    by_cases c6 : kd = 22
    · rw [if_pos c6] at k
      refine ifT (decide_eq_true (by omega)) ⟨_, rfl, _, rfl, a, _, (n : Int), rfl, ha, l3, tb, fun H' r kp tp np hr => ?_⟩
      rw [m_lasting hp.inc] at hr
      exact k H' r kp tp np hr
    rw [if_neg c6] at k
    refine ifF (decide_eq_false (by omega)) ⟨_, rfl, _, rfl, a, _, (n : Int), rfl, ha, l3, tb, fun H' r marks kp tp np hm hr => ?_⟩
    rw [m_hull hp.inc] at hm hr
    have e := m_comb .less (Vabita.hull p) p hm
    rw [e, show wordS .less (Vabita.hull p) p = Vabita.gaps p from rfl, m_fill hp.inc] at hr
    exact k H' r kp tp np hr
/-! made -/
def wordsK : List (Key × V) := [(.inl 10, .str "either"), (.inl 11, .str "both"), (.inl 12, .str "less"), (.inl 13, .str "odd")]
def word3 : Nat → W4
  | 10 => .either
  | 11 => .both
  | 12 => .less
  | _ => .odd
theorem wk_some {k : Nat} (h1 : 10 ≤ k) (h2 : k ≤ 13) : valV wordsK (.inl (k : Int)) = some (V.str (word3 k).str) := by
  have : k = 10 ∨ k = 11 ∨ k = 12 ∨ k = 13 := by omega
  rcases this with rfl | rfl | rfl | rfl <;> rfl
theorem wk_none {k : Nat} (h : 14 ≤ k) : valV wordsK (.inl (k : Int)) = none := by
  have n1 : ¬ ((Sum.inl (10 : Int) : Key) = .inl (k : Int)) := fun z => by injection z with z; omega
  have n2 : ¬ ((Sum.inl (11 : Int) : Key) = .inl (k : Int)) := fun z => by injection z with z; omega
  have n3 : ¬ ((Sum.inl (12 : Int) : Key) = .inl (k : Int)) := fun z => by injection z with z; omega
  have n4 : ¬ ((Sum.inl (13 : Int) : Key) = .inl (k : Int)) := fun z => by injection z with z; omega
  unfold valV wordsK
  simp only [List.find?_cons, decide_eq_false n1, decide_eq_false n2, decide_eq_false n3, decide_eq_false n4, List.find?_nil]
  rfl
def shp : List (Nat × Nat) := [(1, 0), (1, 0), (1, 0), (1, 0), (1, 0), (1, 2), (1, 1), (1, 2), (1, 1), (1, 1), (3, 0), (3, 0), (3, 0), (3, 0), (2, 0), (2, 1), (2, 1), (2, 1), (2, 1), (2, 1), (2, 0), (2, 0), (2, 1), (2, 1), (1, 4), (1, 1), (1, 0), (1, 0), (1, 0), (1, 1), (1, 1), (1, 1), (1, 1), (1, 0), (1, 1), (2, 0), (2, 0)]
/-- the sets that stand at addresses -/
def Sets (H : Hp) (rs : List Addr) (ps : List (List Nat)) : Prop := Paired (fun a p => IL H a (up p)) rs ps
theorem Kp.sets {J : Addr} {H H' : Hp} {rs : List Addr} {ps : List (List Nat)} (k : Kp J H H') (h : Sets H rs ps) : Sets H' rs ps := L2.Paired.mapP h fun _ _ q => k.lst q
def madeS (k : Nat) (ps : List (List Nat)) (ns : List Nat) (row : List Int) : Res :=
  if k = 0 then .ok [] else if k = 1 then (match Vabita.boundsOf row with | some p => .ok p | none => .no (-2)) else if k = 3 then (match Vabita.read (row.map Int.toNat) with | some p => .ok p | none => .no (-2))
  else if k < 10 then changedS k (ps.getD 0 []) ns else if k < 14 then .ok (wordS (word3 k) (ps.getD 1 []) (ps.getD 2 [])) else if k = 14 then .ok (Vabita.other (ps.getD 1 [])) else if k = 20 then .ok (Vabita.hull (ps.getD 1 []))
  else if k = 21 then .ok (Vabita.gaps (ps.getD 1 [])) else if k = 24 then runsS (ns.getD 0 0) (ns.getD 1 0) (ns.getD 2 0) (ns.getD 3 0) else .ok (mbS k (ps.getD 1 []) (ns.getD 0 0))
structure MdArgs (H : Hp) (k : Nat) (s b r : Addr) (ps : List (List Nat)) (ns : List Nat) (row : List Int) : Prop where
  sets : ∃ rs, H s = some (.lst (rs.map V.ref)) ∧ Sets H rs ps
  nums : IL H b (up ns)
  rw_ : IL H r row
  oks : ∀ p ∈ ps, OkS p
  shape : shp[k]? = some (ps.length, ns.length)
  put : row.length ≤ 2500
  read : k = 3 → ∀ n ∈ row, 0 ≤ n ∧ n < 256
def spMade (J RF : Addr) : Sp := fun vs H Q E => ∃ (k : Nat) (s b r : Addr) (ps : List (List Nat)) (ns : List Nat) (row : List Int), vs = [.int (k : Int), .ref s, .ref b, .ref r] ∧ k < 25 ∧ k ≠ 2 ∧ k ≠ 4 ∧ MdArgs H k s b r ps ns row ∧ Tab J H ∧ Gives J RF H Q E (madeS k ps ns row)
theorem sc_made : FnScope ["kind", "sets", "numbers", "row"] ["kind", "sets", "numbers", "row"] (defScope (top 79)) := ⟨rfl, rfl, rfl, by decide +kernel, rfl, by decide +kernel, by decide +kernel⟩
theorem sh_a : ∀ k, k < 10 → ∀ m n, shp[k]? = some (m, n) → m = 1 ∧ n ≤ 2 ∧ ((k = 5 ∨ k = 7) → n = 2) := by
  intro k hk m n h
  have : k = 0 ∨ k = 1 ∨ k = 2 ∨ k = 3 ∨ k = 4 ∨ k = 5 ∨ k = 6 ∨ k = 7 ∨ k = 8 ∨ k = 9 := by omega
  rcases this with rfl | rfl | rfl | rfl | rfl | rfl | rfl | rfl | rfl | rfl <;> (simp [shp] at h; omega)
theorem sh_b : ∀ k, 10 ≤ k → k < 14 → ∀ m n, shp[k]? = some (m, n) → m = 3 := by
  intro k hk hk2 m n h
  have : k = 10 ∨ k = 11 ∨ k = 12 ∨ k = 13 := by omega
  rcases this with rfl | rfl | rfl | rfl <;> (simp [shp] at h; omega)
theorem sh_c : ∀ k, 14 ≤ k → k < 24 → ∀ m n, shp[k]? = some (m, n) → m = 2 ∧ (k ≠ 14 → k ≠ 20 → k ≠ 21 → n = 1) := by
  intro k hk hk2 m n h
  have : k = 14 ∨ k = 15 ∨ k = 16 ∨ k = 17 ∨ k = 18 ∨ k = 19 ∨ k = 20 ∨ k = 21 ∨ k = 22 ∨ k = 23 := by omega
  rcases this with rfl | rfl | rfl | rfl | rfl | rfl | rfl | rfl | rfl | rfl <;> (simp [shp] at h; omega)
theorem ok_made (d : DefAt K "made" (top 79)) (G : Gm K mg) (gP : GC mg "PUT" (.int 1)) (gR : GC mg "READ" (.int 3)) (gW : GC mg "WORDS" (.ref W)) (kdW : KD P w K W wordsK)
    (F1 : Fn P w K mg base (L2.CX P w) 4 "listed" ["row"] (spListed J RF)) (F2 : Fn P w K mg base (L2.CX P w) 5 "read" ["row"] (spRead J RF)) (F3 : Fn P w K mg base (L2.CX P w) 4 "changed" ["kind", "held", "numbers"] (spChanged J RF)) (F4 : Fn P w K mg base CX0 2 "combined" ["word", "one", "other"] (spComb J))
    (F5 : Fn P w K mg base CX0 3 "other" ["bounds"] (spOther J)) (F6 : Fn P w K mg base CX0 2 "hull" ["bounds"] (spHull J)) (F7 : Fn P w K mg base CX0 3 "gaps" ["bounds"] (spGaps J)) (F8 : Fn P w K mg base (L2.CX P w) 5 "runs" ["numbers"] (spRuns J RF)) (F9 : Fn P w K mg base CX0 5 "made_by" ["kind", "held", "n"] (spMadeBy J)) :
    Fn P w K mg base (L2.CX P w) 6 "made" ["kind", "sets", "numbers", "row"] (spMade J RF) := by
  refine d.fnG G sc_made (fun _ _ _ _ _ _ us hl => match us, hl with | [_, _, _, _], _ => rfl) (fun vs H Q E h => ?_) (fun f cdv A outer s H vs Q E hr h => ?_)
  · obtain ⟨k, s, b, r, ps, ns, row, rfl, _⟩ := h
    rfl
  · obtain ⟨kd, sa, b, r, ps, ns, row, rfl, k25, kn2, kn4, M, tb, k⟩ := h
    have hr4 := hr.mono (show 4 ≤ 5 by decide)
    have hr3 := hr.mono (show 3 ≤ 5 by decide)
    have hr2 := hr.mono (show 2 ≤ 5 by decide)
    have tk : L2.Takes (cxOf (L2.CX P w) P w K mg base ["kind", "sets", "numbers", "row"] "made" (defScope (top 79)) f cdv A outer s H E) (fun cls d _ H => E cls d H) := L2.takes_of rfl rfl rfl rfl
    have px : Passes (L2.CX P w) (cxOf (L2.CX P w) P w K mg base ["kind", "sets", "numbers", "row"] "made" (defScope (top 79)) f cdv A outer s H E) E := L2.passes_call tk (fun _ _ _ _ h => h)
    refine ⟨_, pss_cons (ps_if (pt_cmp (pc_eqI (pv 0) pe_int)) (pss_one (ps_ret (pe_lst pa_nil))) pss_nil)
      (pss_cons (ps_if (pt_cmp (pc_eqI (pv 0) (pe_gcv rfl gP))) (pss_one (ps_ret (pe_fnX F1 hr4 px (pa_cons (pv 3) pa_nil)))) pss_nil)
      (pss_cons (ps_if (pt_cmp (pc_eqI (pv 0) (pe_gcv rfl gR))) (pss_one (ps_ret (pe_fnX F2 hr px (pa_cons (pv 3) pa_nil)))) pss_nil)
      (pss_cons (ps_if (pt_cmp (pc_lt (pv 0) pe_int)) (pss_one (ps_ret (pe_fnX F3 hr4 px (pa_cons (pv 0) (pa_cons (pe_ix ix_list (pv 1) pe_int (fun _ _ => rfl)) (pa_cons (pv 2) pa_nil)))))) pss_nil)
      (pss_cons (ps_if (pt_cmp (pc_kin (kvs := wordsK) (d := W) kdW (pv 0) (pe_gcv rfl gW))) (pss_one (ps_ret (pe_fn F4 hr2 (pa_cons (pe_kget (kvs := wordsK) (d := W) kdW (pe_gcv rfl gW) (pv 0) (fun _ _ => rfl)) (pa_cons (pe_ix ix_list (pv 1) pe_int (fun _ _ => rfl)) (pa_cons (pe_ix ix_list (pv 1) pe_int (fun _ _ => rfl)) pa_nil)))))) pss_nil)
      (pss_cons (ps_if (pt_cmp (pc_eqI (pv 0) pe_int)) (pss_one (ps_ret (pe_fn F5 hr3 (pa_cons (pe_ix ix_list (pv 1) pe_int (fun _ _ => rfl)) pa_nil)))) pss_nil)
      (pss_cons (ps_if (pt_cmp (pc_eqI (pv 0) pe_int)) (pss_one (ps_ret (pe_fn F6 hr2 (pa_cons (pe_ix ix_list (pv 1) pe_int (fun _ _ => rfl)) pa_nil)))) pss_nil)
      (pss_cons (ps_if (pt_cmp (pc_eqI (pv 0) pe_int)) (pss_one (ps_ret (pe_fn F7 hr3 (pa_cons (pe_ix ix_list (pv 1) pe_int (fun _ _ => rfl)) pa_nil)))) pss_nil)
      (pss_cons (ps_if (pt_cmp (pc_eqI (pv 0) pe_int)) (pss_one (ps_ret (pe_fnX F8 hr px (pa_cons (pv 2) pa_nil)))) pss_nil)
      (pss_one (ps_ret (pe_fn F9 hr (pa_cons (pv 0) (pa_cons (pe_ix ix_list (pv 1) pe_int (fun _ _ => rfl)) (pa_cons (pe_ix ix_list (pv 2) pe_int (fun _ _ => rfl)) pa_nil)))))))))))))), ?_⟩
    obtain ⟨rs, hs, hrs⟩ := M.sets
    have hnm := M.nums
    unfold madeS at k
    refine ⟨_, rfl, _, _, rfl, rfl, _, rfl, ?_⟩
    by_cases c0 : kd = 0
    · rw [if_pos c0] at k
      refine ifT (decide_eq_true (by omega)) ⟨?_, fun q hq => k _ q (Kp.new hq) (tab_new tb hq) (NL.new hq) upd_same⟩
      show 0 ≤ sizeLine
      decide
    rw [if_neg c0] at k
    refine ifF (decide_eq_false (by omega)) ⟨_, rfl, _, _, rfl, rfl, _, rfl, ?_⟩
    by_cases c1 : kd = 1
    · rw [if_pos c1] at k
      have hp := M.put
      refine ifT (decide_eq_true (by omega)) ⟨_, rfl, r, row, rfl, M.rw_, by omega, tb, fun ok => ?_, fun no => ?_⟩
      · obtain ⟨e1, e2⟩ := m_listed.1 ok
        rw [e1] at k
        intro H' q kp tp np hq
        rw [← e2] at hq
        exact k H' q kp tp np hq
      · rw [m_listed.2 no] at k
        exact k
    rw [if_neg c1] at k
    refine ifF (decide_eq_false (by omega)) ⟨_, rfl, _, _, rfl, rfl, _, rfl, ?_⟩
    by_cases c3 : kd = 3
    · rw [if_pos c3] at k
      have hrd := M.read c3
      have er : row = up (row.map Int.toNat) := by
        unfold up
        rw [List.map_map]
        conv => lhs; rw [← List.map_id row]
        apply List.map_congr_left
        intro n hn
        have := (hrd n hn).1
        simp
        omega
      refine ifT (decide_eq_true (by omega)) ⟨_, rfl, r, row.map Int.toNat, rfl, by rw [← er]; exact M.rw_, by rw [List.length_map]; exact M.put, fun c hc => ?_, tb, fun s es => ?_, fun en => ?_⟩
      · obtain ⟨n, hn, rfl⟩ := List.mem_map.mp hc
        have := hrd n hn
        omega
      · rw [m_read] at es
        cases e : Vabita.read (row.map Int.toNat) with
        | none => rw [e] at es; cases es
        | some p =>
          rw [e] at es k
          cases es
          exact fun H' q kp tp np hq => k H' q kp tp np hq
      · rw [m_read] at en
        cases e : Vabita.read (row.map Int.toNat) with
        | none => rw [e] at k; exact k
        | some p => rw [e] at en; cases en
    rw [if_neg c3] at k
    refine ifF (decide_eq_false (by omega)) ⟨_, rfl, _, _, rfl, rfl, _, rfl, ?_⟩
    by_cases c10 : kd < 10
    · rw [if_pos c10] at k
      obtain ⟨s1, s2, s3⟩ := sh_a kd c10 _ _ M.shape
      obtain ⟨p0, rfl⟩ : ∃ p0, ps = [p0] := by
        match ps, s1 with
        | [p0], _ => exact ⟨p0, rfl⟩
      cases hrs with
      | cons h0 hnil =>
        cases hnil
        have o0 := M.oks p0 (by simp)
        have := o0.len
        exact ifT (decide_eq_true (show (kd : Int) < 10 by omega)) ⟨_, rfl, _, rfl, sa, _, 0, _, rfl, rfl, SqL.of hs, by exact atI_nat rfl, _, rfl, kd, _, b, p0, ns, rfl, by omega, by omega, h0, hnm, by omega, s2, s3, tb, k⟩
    rw [if_neg c10] at k
    refine ifF (decide_eq_false (show ¬ (kd : Int) < 10 by omega)) ⟨_, rfl, .inl (kd : Int), rfl, rfl, _, rfl, ?_⟩
    by_cases c14 : kd < 14
    · rw [if_pos c14] at k
      have s1 := sh_b kd (by omega) c14 _ _ M.shape
      obtain ⟨p0, p1, p2, rfl⟩ : ∃ p0 p1 p2, ps = [p0, p1, p2] := by
        match ps, s1 with
        | [p0, p1, p2], _ => exact ⟨p0, p1, p2, rfl⟩
      have e3 := wk_some (k := kd) (by omega) (by omega)
      cases hrs with
      | cons h0 hr1 =>
        cases hr1 with
        | cons h1 hr2 =>
          cases hr2 with
          | cons h2 hr3 =>
            cases hr3
            have l1 := (M.oks p1 (by simp)).len
            have l2 := (M.oks p2 (by simp)).len
            refine ifT (by rw [e3]; rfl) ⟨_, rfl, .inl (kd : Int), V.str (word3 kd).str, rfl, rfl, e3, _, rfl, sa, _, 1, _, rfl, rfl, SqL.of hs, by exact atI_nat rfl, _, rfl, sa, _, 2, _, rfl, rfl, SqL.of hs, by exact atI_nat rfl, word3 kd, _, _, up p1, up p2, rfl, h1, h2, ?_, tb, fun H' q marks kp tp np hm hq => ?_⟩
            · rw [up_len, up_len]
              omega
            · rw [m_comb _ _ _ hm] at hq
              exact k H' q kp tp np hq
    rw [if_neg c14] at k
    refine ifF (by rw [wk_none (by omega)]; rfl) ?_
    by_cases c24 : kd = 24
    · subst c24
      have hsh : ns.length = 4 := by
        have := M.shape
        simp [shp] at this
        omega
      obtain ⟨x, st, le, c, rfl⟩ : ∃ x st le c, ns = [x, st, le, c] := by
        match ns, hsh with
        | [x, st, le, c], _ => exact ⟨x, st, le, c, rfl⟩
      refine ⟨_, rfl, _, _, rfl, rfl, _, rfl, ifF rfl ⟨_, rfl, _, _, rfl, rfl, _, rfl, ifF rfl ⟨_, rfl, _, _, rfl, rfl, _, rfl, ifF rfl ⟨_, rfl, _, _, rfl, rfl, _, rfl, ifT rfl ⟨_, rfl, b, x, st, le, c, rfl, hnm, tb, k⟩⟩⟩⟩⟩
    obtain ⟨s1, s2⟩ := sh_c kd (by omega) (by omega) _ _ M.shape
    obtain ⟨p0, p1, rfl⟩ : ∃ p0 p1, ps = [p0, p1] := by
      match ps, s1 with
      | [p0, p1], _ => exact ⟨p0, p1, rfl⟩
    cases hrs with
    | cons h0 hr1 =>
      cases hr1 with
      | cons h1 hr2 =>
        cases hr2
        have o1 := M.oks p1 (by simp)
        have l1 := o1.len
        have l3 : (up p1).length ≤ 3000 := by rw [up_len]; omega
        refine ⟨_, rfl, _, _, rfl, rfl, _, rfl, ?_⟩
        by_cases d14 : kd = 14
        · rw [if_pos d14] at k
          refine ifT (decide_eq_true (by omega)) ⟨_, rfl, sa, _, 1, _, rfl, rfl, SqL.of hs, by exact atI_nat rfl, _, up p1, rfl, h1, l3, tb, fun H' q marks kp tp np hm hq => ?_⟩
          rw [m_other o1.inc hm] at hq
          exact k H' q kp tp np hq
        rw [if_neg d14] at k
        refine ifF (decide_eq_false (by omega)) ⟨_, rfl, _, _, rfl, rfl, _, rfl, ?_⟩
        by_cases d20 : kd = 20
        · rw [if_pos d20] at k
          refine ifT (decide_eq_true (by omega)) ⟨_, rfl, sa, _, 1, _, rfl, rfl, SqL.of hs, by exact atI_nat rfl, _, up p1, rfl, h1, l3, tb, fun H' q kp tp np hq => ?_⟩
          rw [m_hull o1.inc] at hq
          exact k H' q kp tp np hq
        rw [if_neg d20] at k
        refine ifF (decide_eq_false (by omega)) ⟨_, rfl, _, _, rfl, rfl, _, rfl, ?_⟩
        by_cases d21 : kd = 21
        · rw [if_pos d21] at k
          refine ifT (decide_eq_true (by omega)) ⟨_, rfl, sa, _, 1, _, rfl, rfl, SqL.of hs, by exact atI_nat rfl, _, up p1, rfl, h1, l3, tb, fun H' q marks kp tp np hm hq => ?_⟩
          rw [m_hull o1.inc] at hm hq
          have e := m_comb .less (Vabita.hull p1) p1 hm
          rw [e] at hq
          exact k H' q kp tp np hq
        rw [if_neg d21, if_neg c24] at k
        obtain ⟨n, rfl⟩ : ∃ n, ns = [n] := by
          match ns, s2 d14 d20 d21 with
          | [n], _ => exact ⟨n, rfl⟩
        exact ifF (decide_eq_false (by omega)) ⟨_, rfl, _, _, rfl, rfl, _, rfl, ifF (decide_eq_false (by omega)) ⟨_, rfl, _, rfl, sa, _, 1, _, rfl, rfl, SqL.of hs, by exact atI_nat rfl, _, rfl, b, _, 0, V.int n, rfl, rfl, SqL.of hnm, by exact atI_nat rfl, kd, _, p1, n, rfl, h1, o1, tb, k⟩⟩
end
end Ms
end

/-! text U5 -/
section
set_option Elab.async false
set_option linter.all false
set_option maxRecDepth 100000
set_option maxHeartbeats 4000000
namespace Ms
open PySem PySem.Spec PyProof.Rows L2 HotX
def foundS (x : Option Nat) : Res := match x with
  | some t => .ok [t]
  | none => .no (-3)
def lastS (p : List Nat) : Res := if Vabita.endless p = true then .no (-4) else foundS (p.getLast?.map fun x => x - 1)
def sizeS (p : List Nat) : Res := if Vabita.endless p = true then .no (-4) else .ok [Vabita.size p]
def pieceS (x : Option Vabita.Piece) : Res := match x with
  | none => .no (-3)
  | some (a, none) => .ok [1, a]
  | some (a, some b) => .ok [0, a, b]
theorem end_up (p : List Nat) : endI (up p) = Vabita.endless p := end_cast p
section
variable {P : Program} {w : World} {K : PySem.W.Frag} {mg : Str → Option Value} {base : Heap} {J RF NT W : Addr}
/-! last -/
/-- a number is handed back, or the call refused -/
def GivesN (J RF : Addr) (H : Hp) (Q : VK) (E : XK) (r : Res) : Prop := match r with
  | .ok p => ∀ H', Kp J H H' → Tab J H' → Q (.int ((p.headD 0 : Nat) : Int)) H'
  | .no n => RefX J RF E H n
def spLast (J RF : Addr) : Sp := fun vs H Q E => ∃ (a : Addr) (p : List Nat), vs = [.ref a] ∧ IL H a (up p) ∧ OkS p ∧ Tab J H ∧ GivesN J RF H Q E (lastS p)
theorem sc_last : FnScope ["bounds"] ["bounds"] (defScope (top 81)) := ⟨rfl, rfl, rfl, by decide +kernel, rfl, by decide +kernel, by decide +kernel⟩
theorem eqv_up (p : List Nat) : PyData.eqv (.list ((up p).map PyData.int)) (.list []) = decide (p = []) := by
  rw [eqv_nil]
  cases p <;> rfl
theorem inc_pos {p : List Nat} (h : IncN p) {r : List Nat} {x : Nat} (e : p = r ++ [x]) (hr : r ≠ []) : 1 ≤ x := by
  subst e
  obtain ⟨y, q, rfl⟩ : ∃ y q, r = y :: q := by
    cases r with
    | nil => exact absurd rfl hr
    | cons y q => exact ⟨y, q, rfl⟩
  have := List.rel_of_pairwise_cons h (show x ∈ q ++ [x] by simp)
  omega
theorem ok_last (d : DefAt K "last" (top 81)) (G : Gm K mg) (g3 : GC mg "NOT_THERE" (.int (-3))) (g4 : GC mg "ENDLESS" (.int (-4))) (F1 : Fn P w K mg base (L2.CX P w) 3 "need" ["truth", "number"] (spNeed J RF)) (F2 : Fn P w K mg base CX0 1 "is_endless" ["bounds"] (spEnd J)) :
    Fn P w K mg base (L2.CX P w) 4 "last" ["bounds"] (spLast J RF) := by
  refine d.fnG G sc_last (fun _ _ _ _ _ _ us hl => match us, hl with | [_], _ => rfl) (fun vs H Q E h => ?_) (fun f cdv A outer s H vs Q E hr h => ?_)
  · obtain ⟨a, p, rfl, _⟩ := h
    rfl
  · obtain ⟨a, p, rfl, ha, hp, tb, k⟩ := h
    have hr1 := hr.mono (show 1 ≤ 3 by decide)
    have tk : L2.Takes (cxOf (L2.CX P w) P w K mg base ["bounds"] "last" (defScope (top 81)) f cdv A outer s H E) (fun cls d _ H => E cls d H) := L2.takes_of rfl rfl rfl rfl
    have px : Passes (L2.CX P w) (cxOf (L2.CX P w) P w K mg base ["bounds"] "last" (defScope (top 81)) f cdv A outer s H E) E := L2.passes_call tk (fun _ _ _ _ h => h)
    refine ⟨_, pss_cons (ps_expr (pe_fnX F1 hr px (pa_cons (pe_cmpR (op_neD hr.units) (pv 0) (pe_lst pa_nil) (nomark _)) (pa_cons (pe_gcv rfl g3) pa_nil))))
      (pss_cons (ps_expr (pe_fnX F1 hr px (pa_cons (pe_not (pe_fn F2 hr1 (pa_cons (pv 0) pa_nil))) (pa_cons (pe_gcv rfl g4) pa_nil))))
      (pss_one (ps_ret (pe_op op_sub (pe_ix ix_list (pv 0) (pe_un un_neg pe_int) (fun _ _ => rfl)) pe_int)))), ?_⟩
    refine ⟨_, rfl, Nat.zero_le _, fun q hq => ?_⟩
    have kq : Kp J H (upd H q (.lst [])) := Kp.new hq
    have ha2 := kq.lst ha
    refine ⟨_, _, dp_il ha2, Dp.lst (SqL.of upd_same) .nil, sh_ints _, rfl, _, -3, rfl, kq.tab tb, fun hb => ?_, fun hb => ?_⟩
    · rw [eqv_up] at hb
      have hne : p ≠ [] := by simpa using hb
      refine ⟨_, rfl, a, up p, rfl, ha2, _, rfl, _, -4, rfl, kq.tab tb, fun hb2 => ?_, fun hb2 => ?_⟩
      · rw [end_up] at hb2
        have he : Vabita.endless p = false := by simpa using hb2
        unfold lastS at k
        rw [if_neg (by rw [he]; exact Bool.false_ne_true)] at k
        have hne' : up p ≠ [] := fun z => hne (by unfold up at z; simpa using z)
        refine ⟨_, rfl, 1, rfl, a, _, -1, _, rfl, rfl, SqL.of ha2, atI_lastD hne', _, _, rfl, rfl, ?_⟩
        obtain ⟨r, x, rfl⟩ : ∃ r x, p = r ++ [x] := ⟨p.dropLast, p.getLast hne, (List.dropLast_concat_getLast hne).symm⟩
        have hr0 : r ≠ [] := fun z => by subst z; simp [Vabita.endless] at he
        have h1 := inc_pos hp.inc rfl hr0
        rw [List.getLast?_concat] at k
        have k' : ∀ H', Kp J H H' → Tab J H' → Q (.int ((x - 1 : Nat) : Int)) H' := k
        have z := k' _ kq (kq.tab tb)
        have e : (up (r ++ [x])).getLastD 0 = (x : Int) := by
          unfold up
          rw [List.map_append]
          exact List.getLastD_concat ..
        rw [e]
        rw [show ((x - 1 : Nat) : Int) = (x : Int) - 1 by omega] at z
        exact z
      · rw [end_up] at hb2
        have he : Vabita.endless p = true := by simpa using hb2
        unfold lastS at k
        rw [if_pos he] at k
        exact k.on kq
    · rw [eqv_up] at hb
      have hne : p = [] := by simpa using hb
      subst hne
      exact RefX.on k kq
/-! whole_size -/
def spWhole (J RF : Addr) : Sp := fun vs H Q E => ∃ (a : Addr) (p : List Nat), vs = [.ref a] ∧ IL H a (up p) ∧ OkS p ∧ Tab J H ∧ GivesN J RF H Q E (sizeS p)
theorem sc_whole : FnScope ["bounds"] ["bounds"] (defScope (top 82)) := ⟨rfl, rfl, rfl, by decide +kernel, rfl, by decide +kernel, by decide +kernel⟩
theorem ok_whole (d : DefAt K "whole_size" (top 82)) (G : Gm K mg) (g4 : GC mg "ENDLESS" (.int (-4))) (F1 : Fn P w K mg base (L2.CX P w) 3 "need" ["truth", "number"] (spNeed J RF)) (F2 : Fn P w K mg base CX0 1 "is_endless" ["bounds"] (spEnd J)) (F3 : Fn P w K mg base CX0 3 "size" ["bounds"] (spSize J)) :
    Fn P w K mg base (L2.CX P w) 4 "whole_size" ["bounds"] (spWhole J RF) := by
  refine d.fnG G sc_whole (fun _ _ _ _ _ _ us hl => match us, hl with | [_], _ => rfl) (fun vs H Q E h => ?_) (fun f cdv A outer s H vs Q E hr h => ?_)
  · obtain ⟨a, p, rfl, _⟩ := h
    rfl
  · obtain ⟨a, p, rfl, ha, hp, tb, k⟩ := h
    have hr1 := hr.mono (show 1 ≤ 3 by decide)
    have tk : L2.Takes (cxOf (L2.CX P w) P w K mg base ["bounds"] "whole_size" (defScope (top 82)) f cdv A outer s H E) (fun cls d _ H => E cls d H) := L2.takes_of rfl rfl rfl rfl
    have px : Passes (L2.CX P w) (cxOf (L2.CX P w) P w K mg base ["bounds"] "whole_size" (defScope (top 82)) f cdv A outer s H E) E := L2.passes_call tk (fun _ _ _ _ h => h)
    refine ⟨_, pss_cons (ps_expr (pe_fnX F1 hr px (pa_cons (pe_not (pe_fn F2 hr1 (pa_cons (pv 0) pa_nil))) (pa_cons (pe_gcv rfl g4) pa_nil))))
      (pss_one (ps_ret (pe_fn F3 hr (pa_cons (pv 0) pa_nil)))), ?_⟩
    refine ⟨_, rfl, a, up p, rfl, ha, _, rfl, _, -4, rfl, tb, fun hb2 => ?_, fun hb2 => ?_⟩
    · rw [end_up] at hb2
      have he : Vabita.endless p = false := by simpa using hb2
      unfold sizeS at k
      rw [if_neg (by rw [he]; exact Bool.false_ne_true)] at k
      have hl := hp.len
      refine ⟨_, rfl, a, up p, rfl, ha, by rw [up_len]; omega, by rw [end_up]; exact he, tb, fun H' kp tp => ?_⟩
      rw [m_size hp.inc hp.le he]
      exact k H' kp tp
    · rw [end_up] at hb2
      have he : Vabita.endless p = true := by simpa using hb2
      unfold sizeS at k
      rw [if_pos he] at k
      exact k
/-! piece -/
def spPiece (J RF : Addr) : Sp := fun vs H Q E => ∃ (a : Addr) (p : List Nat) (i : Nat), vs = [.ref a, .int (i : Int)] ∧ IL H a (up p) ∧ OkS p ∧ Tab J H ∧ Gives J RF H Q E (pieceS (Vabita.pieces p)[i]?)
theorem sc_piece : FnScope ["bounds", "i", "some", "begin", "end"] ["bounds", "i"] (defScope (top 83)) := ⟨rfl, rfl, rfl, by decide +kernel, rfl, by decide +kernel, by decide +kernel⟩
theorem ok_piece (d : DefAt K "piece" (top 83)) (G : Gm K mg) (B : Bi mg) (g3 : GC mg "NOT_THERE" (.int (-3))) (F1 : Fn P w K mg base (L2.CX P w) 3 "need" ["truth", "number"] (spNeed J RF)) (F2 : Fn P w K mg base CX0 2 "pieces_of" ["bounds"] (spPcs J)) :
    Fn P w K mg base (L2.CX P w) 4 "piece" ["bounds", "i"] (spPiece J RF) := by
  refine d.fnG G sc_piece (fun _ _ _ _ _ _ us hl => match us, hl with | [_, _], _ => rfl) (fun vs H Q E h => ?_) (fun f cdv A outer s H vs Q E hr h => ?_)
  · obtain ⟨a, p, i, rfl, _⟩ := h
    rfl
  · obtain ⟨a, p, i, rfl, ha, hp, tb, k⟩ := h
    have hr2 := hr.mono (show 2 ≤ 3 by decide)
    have tk : L2.Takes (cxOf (L2.CX P w) P w K mg base ["bounds", "i", "some", "begin", "end"] "piece" (defScope (top 83)) f cdv A outer s H E) (fun cls d _ H => E cls d H) := L2.takes_of rfl rfl rfl rfl
    have px : Passes (L2.CX P w) (cxOf (L2.CX P w) P w K mg base ["bounds", "i", "some", "begin", "end"] "piece" (defScope (top 83)) f cdv A outer s H E) E := L2.passes_call tk (fun _ _ _ _ h => h)
    refine ⟨_, pss_cons (ps_set (i := 2) sc_piece.nd rfl (Or.inl rfl) (pe_fn F2 hr2 (pa_cons (pv 0) pa_nil)))
      (pss_cons (ps_expr (pe_fnX F1 hr px (pa_cons (pe_cmp (pc_lt (pv 1) (pe_callB call_len_seq (by rfl) B.len PySem.boot_len (pa_cons (pv 2) pa_nil)))) (pa_cons (pe_gcv rfl g3) pa_nil))))
      (pss_cons (ps_asg (pe_ix ix_list (pv 2) (pv 1) (fun _ _ => rfl)) (pg_tup rfl (pgs_cons (pg_name (i := 3) sc_piece.nd rfl (Or.inl rfl)) (pgs_cons (pg_name (i := 4) sc_piece.nd rfl (Or.inl rfl)) pgs_nil))))
      (pss_cons (ps_if (pt_cmp (pc_isN (pv 4))) (pss_one (ps_ret (pe_lst (pa_cons pe_int (pa_cons (pv 3) pa_nil))))) pss_nil)
      (pss_one (ps_ret (pe_lst (pa_cons pe_int (pa_cons (pv 3) (pa_cons (pv 4) pa_nil))))))))), ?_⟩
    have hl := hp.len
    refine ⟨_, rfl, a, up p, rfl, ha, by rw [up_len]; omega, fun H1 q k1 h1 => ?_⟩
    rw [pcs_up] at h1
    obtain ⟨ts, hq, hts⟩ := h1
    have lt : ts.length = (Vabita.pieces p).length := by rw [paired_len hts, List.length_map]
    refine ⟨_, rfl, _, rfl, q, _, rfl, .inl (SqL.of hq), _, _, rfl, rfl, _, -3, rfl, k1.tab tb, fun hb => ?_, fun hb => ?_⟩
    · have hi : i < (Vabita.pieces p).length := by
        have : (i : Int) < ((ts.map V.ref).length : Int) := of_decide_eq_true hb
        rw [List.length_map, lt] at this
        omega
      obtain ⟨t, ht⟩ : ∃ t, ts[i]? = some t := ⟨ts[i]'(by omega), List.getElem?_eq_getElem (by omega)⟩
      obtain ⟨z, hz, hzt⟩ := paired_get hts ht
      obtain ⟨y, hy, rfl⟩ := map_get hz
      rw [hy] at k
      refine ⟨_, rfl, _, rfl, q, _, (i : Int), V.ref t, rfl, rfl, SqL.of hq, atI_nat (by rw [List.getElem?_map, ht]; rfl), t, _, rfl, SqT.of hzt, rfl, _, _, rfl, _, _, rfl, rfl, _, rfl, _, rfl, ?_⟩
      obtain ⟨b, e⟩ := y
      cases e with
      | none =>
        refine ifT rfl ⟨_, rfl, ?_, fun m hm => k _ m (k1.trans (Kp.new hm)) (tab_new (k1.tab tb) hm) ((NL.new hm).back k1) upd_same⟩
        show 2 ≤ sizeLine
        decide
      | some e =>
        refine ifF rfl ⟨_, rfl, _, rfl, ?_, fun m hm => k _ m (k1.trans (Kp.new hm)) (tab_new (k1.tab tb) hm) ((NL.new hm).back k1) upd_same⟩
        show 3 ≤ sizeLine
        decide
    · have hi : (Vabita.pieces p).length ≤ i := by
        have : ¬ (i : Int) < ((ts.map V.ref).length : Int) := of_decide_eq_false hb
        rw [List.length_map, lt] at this
        omega
      rw [List.getElem?_eq_none hi] at k
      exact RefX.on k k1
/-! only_piece -/
def spOnly (J RF : Addr) : Sp := fun vs H Q E => ∃ (a : Addr) (p : List Nat), vs = [.ref a] ∧ IL H a (up p) ∧ OkS p ∧ Tab J H ∧ (∀ x, Vabita.pieces p = [x] → ∀ H' t, Kp J H H' → Tab J H' → PcAt H' t (castP x) → Q (.ref t) H') ∧ ((∀ x, Vabita.pieces p ≠ [x]) → RefX J RF E H (-3))
theorem sc_only : FnScope ["bounds", "some"] ["bounds"] (defScope (top 84)) := ⟨rfl, rfl, rfl, by decide +kernel, rfl, by decide +kernel, by decide +kernel⟩
theorem ok_only (d : DefAt K "only_piece" (top 84)) (G : Gm K mg) (B : Bi mg) (g3 : GC mg "NOT_THERE" (.int (-3))) (F1 : Fn P w K mg base (L2.CX P w) 3 "need" ["truth", "number"] (spNeed J RF)) (F2 : Fn P w K mg base CX0 2 "pieces_of" ["bounds"] (spPcs J)) :
    Fn P w K mg base (L2.CX P w) 4 "only_piece" ["bounds"] (spOnly J RF) := by
  refine d.fnG G sc_only (fun _ _ _ _ _ _ us hl => match us, hl with | [_], _ => rfl) (fun vs H Q E h => ?_) (fun f cdv A outer s H vs Q E hr h => ?_)
  · obtain ⟨a, p, rfl, _⟩ := h
    rfl
  · obtain ⟨a, p, rfl, ha, hp, tb, ka, kb⟩ := h
    have hr2 := hr.mono (show 2 ≤ 3 by decide)
    have tk : L2.Takes (cxOf (L2.CX P w) P w K mg base ["bounds", "some"] "only_piece" (defScope (top 84)) f cdv A outer s H E) (fun cls d _ H => E cls d H) := L2.takes_of rfl rfl rfl rfl
    have px : Passes (L2.CX P w) (cxOf (L2.CX P w) P w K mg base ["bounds", "some"] "only_piece" (defScope (top 84)) f cdv A outer s H E) E := L2.passes_call tk (fun _ _ _ _ h => h)
    refine ⟨_, pss_cons (ps_set (i := 1) sc_only.nd rfl (Or.inl rfl) (pe_fn F2 hr2 (pa_cons (pv 0) pa_nil)))
      (pss_cons (ps_expr (pe_fnX F1 hr px (pa_cons (pe_cmp (pc_eqI (pe_callB call_len_seq (by rfl) B.len PySem.boot_len (pa_cons (pv 1) pa_nil)) pe_int)) (pa_cons (pe_gcv rfl g3) pa_nil))))
      (pss_one (ps_ret (pe_ix ix_list (pv 1) pe_int (fun _ _ => rfl))))), ?_⟩
    have hl := hp.len
    refine ⟨_, rfl, a, up p, rfl, ha, by rw [up_len]; omega, fun H1 q k1 h1 => ?_⟩
    rw [pcs_up] at h1
    obtain ⟨ts, hq, hts⟩ := h1
    have lt : ts.length = (Vabita.pieces p).length := by rw [paired_len hts, List.length_map]
    refine ⟨_, rfl, q, _, rfl, .inl (SqL.of hq), _, _, rfl, rfl, _, -3, rfl, k1.tab tb, fun hb => ?_, fun hb => ?_⟩
    · have hi : (Vabita.pieces p).length = 1 := by
        have : ((ts.map V.ref).length : Int) = 1 := of_decide_eq_true hb
        rw [List.length_map, lt] at this
        omega
      obtain ⟨x, ex⟩ : ∃ x, Vabita.pieces p = [x] := by
        match Vabita.pieces p, hi with
        | [x], _ => exact ⟨x, rfl⟩
      rw [ex] at hts
      cases hts with
      | cons h0 hn =>
        cases hn
        exact ⟨_, rfl, q, _, 0, _, rfl, rfl, SqL.of hq, by exact atI_nat rfl, ka x ex _ _ k1 (k1.tab tb) h0⟩
    · refine (kb fun x ex => ?_).on k1
      have : ¬ ((ts.map V.ref).length : Int) = 1 := of_decide_eq_false hb
      rw [List.length_map, lt, ex] at this
      exact this rfl
end
end Ms
end

/-! text U6 -/
section
set_option Elab.async false
set_option linter.all false
set_option maxRecDepth 100000
set_option maxHeartbeats 4000000
namespace Ms
open PySem PySem.Spec PyProof.Rows L2 HotX
theorem up_empty (p : List Nat) : (up p).isEmpty = p.isEmpty := by cases p <;> rfl
theorem m_rel (p q : List Nat) : relI (up (Vabita.less p q)) (up (Vabita.less q p)) (up (Vabita.both p q)) (up (Vabita.other (Vabita.either p q))) = ((Vabita.relate p q : Nat) : Int) := by
  unfold relI bI Vabita.relate
  rw [up_empty, up_empty, up_empty, up_empty]
  generalize (Vabita.less p q) = a
  generalize (Vabita.less q p) = b
  generalize (Vabita.both p q) = c
  generalize Vabita.other (Vabita.either p q) = d
  cases a <;> cases b <;> cases c <;> cases d <;> rfl
def twoS (k : Nat) (p q : List Nat) : Res := if k = 35 then .ok [Vabita.relate p q] else foundS (Vabita.allen p q)
theorem pce_le : ∀ {p : List Nat}, IncN p → (∀ b ∈ p, b ≤ Vabita.LAST) → ∀ x ∈ Vabita.pieces p, x.1 ≤ Vabita.LAST ∧ ∀ e, x.2 = some e → x.1 < e ∧ e ≤ Vabita.LAST
  | [], _, _, x, hx => by simp [Vabita.pieces] at hx
  | [a], _, h, x, hx => by
    simp [Vabita.pieces] at hx
    subst hx
    exact ⟨h a (by simp), fun e he => by cases he⟩
  | a :: b :: r, hi, h, x, hx => by
    rcases List.mem_cons.mp hx with rfl | hx
    · exact ⟨h a (by simp), fun e he => by cases he; exact ⟨List.rel_of_pairwise_cons hi (by simp), h b (by simp)⟩⟩
    · exact pce_le (hi.of_cons.of_cons) (fun c hc => h c (by simp [hc])) x hx
section
variable {P : Program} {w : World} {K : PySem.W.Frag} {mg : Str → Option Value} {base : Heap} {J RF NT W : Addr}
/-! asked_of_two -/
def spTwo (J RF : Addr) : Sp := fun vs H Q E => ∃ (k : Nat) (a b : Addr) (p q : List Nat), vs = [.int (k : Int), .ref a, .ref b] ∧ IL H a (up p) ∧ IL H b (up q) ∧ OkS p ∧ OkS q ∧ Tab J H ∧ Gives J RF H Q E (twoS k p q)
theorem sc_two : FnScope ["kind", "one", "two", "first"] ["kind", "one", "two"] (defScope (top 85)) := ⟨rfl, rfl, rfl, by decide +kernel, rfl, by decide +kernel, by decide +kernel⟩
theorem ok_two (d : DefAt K "asked_of_two" (top 85)) (G : Gm K mg) (F1 : Fn P w K mg base CX0 4 "relation" ["one", "two"] (spRel J)) (F2 : Fn P w K mg base (L2.CX P w) 4 "only_piece" ["bounds"] (spOnly J RF)) (F3 : Fn P w K mg base CX0 3 "allen" ["one", "two"] (spAllen J)) :
    Fn P w K mg base (L2.CX P w) 5 "asked_of_two" ["kind", "one", "two"] (spTwo J RF) := by
  refine d.fnG G sc_two (fun _ _ _ _ _ _ us hl => match us, hl with | [_, _, _], _ => rfl) (fun vs H Q E h => ?_) (fun f cdv A outer s H vs Q E hr h => ?_)
  · obtain ⟨k, a, b, p, q, rfl, _⟩ := h
    rfl
  · obtain ⟨kd, a, b, p, q, rfl, ha, hb, hp, hq, tb, k⟩ := h
    have hr3 := hr.mono (show 3 ≤ 4 by decide)
    have tk : L2.Takes (cxOf (L2.CX P w) P w K mg base ["kind", "one", "two", "first"] "asked_of_two" (defScope (top 85)) f cdv A outer s H E) (fun cls d _ H => E cls d H) := L2.takes_of rfl rfl rfl rfl
    have px : Passes (L2.CX P w) (cxOf (L2.CX P w) P w K mg base ["kind", "one", "two", "first"] "asked_of_two" (defScope (top 85)) f cdv A outer s H E) E := L2.passes_call tk (fun _ _ _ _ h => h)
    refine ⟨_, pss_cons (ps_if (pt_cmp (pc_eqI (pv 0) pe_int)) (pss_one (ps_ret (pe_lst (pa_cons (pe_fn F1 hr (pa_cons (pv 1) (pa_cons (pv 2) pa_nil))) pa_nil)))) pss_nil)
      (pss_cons (ps_set (i := 3) sc_two.nd rfl (Or.inl rfl) (pe_fnX F2 hr px (pa_cons (pv 1) pa_nil)))
      (pss_one (ps_ret (pe_lst (pa_cons (pe_fn F3 hr3 (pa_cons (pv 3) (pa_cons (pe_fnX F2 hr px (pa_cons (pv 2) pa_nil)) pa_nil))) pa_nil))))), ?_⟩
    have s1 : 1 ≤ sizeLine := by decide
    have l1 := hp.len
    have l2 := hq.len
    unfold twoS at k
    refine ⟨_, rfl, _, _, rfl, rfl, _, rfl, ?_⟩
    by_cases c : kd = 35
    · rw [if_pos c] at k
      refine ifT (decide_eq_true (by omega)) ⟨_, rfl, _, rfl, a, b, up p, up q, rfl, ha, hb, by rw [up_len, up_len]; omega, tb, fun H' m1 m2 m3 m4 m5 kp tp h1 h2 h3 h4 h5 => ?_⟩
      have e1 := m_comb .less p q h1
      have e2 := m_comb .less q p h2
      have e3 := m_comb .both p q h3
      have e4 := m_comb .either p q h4
      rw [e4] at h5
      have e5 := m_other (inc_word .either p q) h5
      rw [e1, e2, e3, e4, e5]
      refine ⟨s1, fun m hm => ?_⟩
      have z := k _ m (kp.trans (Kp.new hm)) (tab_new tp hm) ((NL.new hm).back kp) upd_same
      show Q (.ref m) (upd H' m (.lst [V.int (relI (up (Vabita.less p q)) (up (Vabita.less q p)) (up (Vabita.both p q)) (up (Vabita.other (Vabita.either p q))))]))
      rw [m_rel]
      exact z
    · rw [if_neg c] at k
      refine ifF (decide_eq_false (by omega)) ⟨_, rfl, a, p, rfl, ha, hp, tb, fun x ex H1 t1 k1 tb1 ht1 => ?_, fun ex => ?_⟩
      · refine ⟨_, rfl, _, rfl, b, q, rfl, k1.lst hb, hq, tb1, fun y ey H2 t2 k2 tb2 ht2 => ?_, fun ey => ?_⟩
        · refine ⟨t1, t2, castP x, castP y, rfl, k2.pc ht1, ht2, fun H3 k3 => ⟨s1, fun m hm => ?_⟩⟩
          have kk := (k1.trans k2).trans k3
          have hx := pce_le hp.inc hp.le x (by rw [ex]; simp)
          have hy := pce_le hq.inc hq.le y (by rw [ey]; simp)
          have ea : Vabita.allen p q = some (Vabita.allenOf x.1 (Vabita.endOf x) y.1 (Vabita.endOf y)) := by
            unfold Vabita.allen
            rw [ex, ey]
          rw [ea] at k
          have z := k _ m (kk.trans (Kp.new hm)) (tab_new (k3.tab tb2) hm) ((NL.new hm).back kk) upd_same
          rw [m_allen hx.2 hy.2 hx.1 hy.1]
          exact z
        · have ea : Vabita.allen p q = none := by
            unfold Vabita.allen
            rw [ex]
            cases e : Vabita.pieces q with
            | nil => rfl
            | cons y r =>
              cases r with
              | nil => exact absurd e (ey y)
              | cons => rfl
          rw [ea] at k
          exact RefX.on k k1
      · have ea : Vabita.allen p q = none := by
          unfold Vabita.allen
          cases e : Vabita.pieces p with
          | nil => rfl
          | cons y r =>
            cases r with
            | nil => exact absurd e (ex y)
            | cons => rfl
        rw [ea] at k
        exact k
/-! asked_with -/
def withS (k : Nat) (p : List Nat) (n : Nat) : Res :=
  if k = 25 then .ok [(Vabita.has p n).toNat] else if k = 29 then foundS (Vabita.nextIn p n) else if k = 30 then foundS (Vabita.prevIn p n) else if k = 31 then foundS (Vabita.nth (Vabita.pieces p) n) else if k = 32 then .ok [Vabita.rank p n] else pieceS (Vabita.pieces p)[n]?
def spWith (J RF : Addr) : Sp := fun vs H Q E => ∃ (k : Nat) (a : Addr) (p : List Nat) (n : Nat), vs = [.int (k : Int), .ref a, .int (n : Int)] ∧ IL H a (up p) ∧ OkS p ∧ Tab J H ∧ Gives J RF H Q E (withS k p n)
theorem sc_with : FnScope ["kind", "held", "n"] ["kind", "held", "n"] (defScope (top 86)) := ⟨rfl, rfl, rfl, by decide +kernel, rfl, by decide +kernel, by decide +kernel⟩
theorem ok_with (d : DefAt K "asked_with" (top 86)) (G : Gm K mg) (B : Bi mg) (F1 : Fn P w K mg base CX0 1 "is_in" ["bounds", "moment"] (spIsIn J)) (F2 : Fn P w K mg base (L2.CX P w) 4 "need_there" ["moment"] (spThere J RF)) (F3 : Fn P w K mg base CX0 3 "next_of" ["bounds", "moment"] (spNext J))
    (F4 : Fn P w K mg base CX0 4 "previous_of" ["bounds", "moment"] (spPrev J)) (F5 : Fn P w K mg base CX0 3 "nth_of" ["bounds", "n"] (spNth J)) (F6 : Fn P w K mg base CX0 4 "rank" ["bounds", "moment"] (spRank J)) (F7 : Fn P w K mg base (L2.CX P w) 4 "piece" ["bounds", "i"] (spPiece J RF)) :
    Fn P w K mg base (L2.CX P w) 5 "asked_with" ["kind", "held", "n"] (spWith J RF) := by
  refine d.fnG G sc_with (fun _ _ _ _ _ _ us hl => match us, hl with | [_, _, _], _ => rfl) (fun vs H Q E h => ?_) (fun f cdv A outer s H vs Q E hr h => ?_)
  · obtain ⟨k, a, p, n, rfl, _⟩ := h
    rfl
  · obtain ⟨kd, a, p, n, rfl, ha, hp, tb, k⟩ := h
    have hr1 := hr.mono (show 1 ≤ 4 by decide)
    have hr3 := hr.mono (show 3 ≤ 4 by decide)
    have tk : L2.Takes (cxOf (L2.CX P w) P w K mg base ["kind", "held", "n"] "asked_with" (defScope (top 86)) f cdv A outer s H E) (fun cls d _ H => E cls d H) := L2.takes_of rfl rfl rfl rfl
    have px : Passes (L2.CX P w) (cxOf (L2.CX P w) P w K mg base ["kind", "held", "n"] "asked_with" (defScope (top 86)) f cdv A outer s H E) E := L2.passes_call tk (fun _ _ _ _ h => h)
    refine ⟨_, pss_cons (ps_if (pt_cmp (pc_eqI (pv 0) pe_int)) (pss_one (ps_ret (pe_lst (pa_cons (pe_callTy call_int1 (by rfl) B.int (by decide +kernel) (pa_cons (pe_fn F1 hr1 (pa_cons (pv 1) (pa_cons (pv 2) pa_nil))) pa_nil)) pa_nil)))) pss_nil)
      (pss_cons (ps_if (pt_cmp (pc_eqI (pv 0) pe_int)) (pss_one (ps_ret (pe_lst (pa_cons (pe_fnX F2 hr px (pa_cons (pe_fn F3 hr3 (pa_cons (pv 1) (pa_cons (pv 2) pa_nil))) pa_nil)) pa_nil)))) pss_nil)
      (pss_cons (ps_if (pt_cmp (pc_eqI (pv 0) pe_int)) (pss_one (ps_ret (pe_lst (pa_cons (pe_fnX F2 hr px (pa_cons (pe_fn F4 hr (pa_cons (pv 1) (pa_cons (pv 2) pa_nil))) pa_nil)) pa_nil)))) pss_nil)
      (pss_cons (ps_if (pt_cmp (pc_eqI (pv 0) pe_int)) (pss_one (ps_ret (pe_lst (pa_cons (pe_fnX F2 hr px (pa_cons (pe_fn F5 hr3 (pa_cons (pv 1) (pa_cons (pv 2) pa_nil))) pa_nil)) pa_nil)))) pss_nil)
      (pss_cons (ps_if (pt_cmp (pc_eqI (pv 0) pe_int)) (pss_one (ps_ret (pe_lst (pa_cons (pe_fn F6 hr (pa_cons (pv 1) (pa_cons (pv 2) pa_nil))) pa_nil)))) pss_nil)
      (pss_one (ps_ret (pe_fnX F7 hr px (pa_cons (pv 1) (pa_cons (pv 2) pa_nil))))))))), ?_⟩
    have s1 : 1 ≤ sizeLine := by decide
    have l1 := hp.len
    have lu : (up p).length ≤ 3000 := by rw [up_len]; omega
    have there : ∀ (x : Option Nat) (H1 : Hp), Kp J H H1 → Tab J H1 → Gives J RF H Q E (foundS x) → spThere J RF [endV (x.map fun n => (n : Int))] H1 (fun v H2 => 1 ≤ sizeLine ∧ ∀ m, H2 m = none → Q (.ref m) (upd H2 m (.lst [v]))) E := fun x H1 k1 t1 g => by
      cases x with
      | none => exact ⟨none, rfl, t1, fun t h => (by cases h), fun _ => RefX.on g k1⟩
      | some t =>
        refine ⟨some (t : Int), rfl, t1, fun t' h => ?_, fun h => by cases h⟩
        cases h
        exact ⟨s1, fun m hm => g _ m (k1.trans (Kp.new hm)) (tab_new t1 hm) ((NL.new hm).back k1) upd_same⟩
    unfold withS at k
    refine ⟨_, rfl, _, _, rfl, rfl, _, rfl, ?_⟩
    by_cases c1 : kd = 25
    · rw [if_pos c1] at k
      refine ifT (decide_eq_true (by omega)) ⟨_, rfl, _, rfl, a, up p, (n : Int), rfl, ha, by omega, tb, fun H1 k1 => .inr ⟨_, rfl, s1, fun m hm => ?_⟩⟩
      have z := k _ m (k1.trans (Kp.new hm)) (tab_new (k1.tab tb) hm) ((NL.new hm).back k1) upd_same
      rw [has_cast]
      have e : up [(Vabita.has p n).toNat] = [if Vabita.has p n = true then (1 : Int) else 0] := by cases Vabita.has p n <;> rfl
      rw [e] at z
      exact z
    rw [if_neg c1] at k
    refine ifF (decide_eq_false (by omega)) ⟨_, rfl, _, _, rfl, rfl, _, rfl, ?_⟩
    by_cases c2 : kd = 29
    · rw [if_pos c2] at k
      refine ifT (decide_eq_true (by omega)) ⟨_, rfl, _, rfl, a, up p, (n : Int), rfl, ha, by omega, tb, fun H1 k1 t1 => ?_⟩
      rw [m_next hp.inc]
      exact there _ H1 k1 t1 k
    rw [if_neg c2] at k
    refine ifF (decide_eq_false (by omega)) ⟨_, rfl, _, _, rfl, rfl, _, rfl, ?_⟩
    by_cases c3 : kd = 30
    · rw [if_pos c3] at k
      refine ifT (decide_eq_true (by omega)) ⟨_, rfl, _, rfl, a, up p, (n : Int), rfl, ha, by omega, tb, fun H1 marks k1 t1 hm => ?_⟩
      have e : ([(n : Int) + 1] : List Int) = up [n + 1] := rfl
      rw [e] at hm
      have z := there _ H1 k1 t1 k
      rw [← m_prev hp.inc, show Vabita.less p [n + 1] = wordS .less p [n + 1] from rfl, ← m_comb .less p [n + 1] hm] at z
      exact z
    rw [if_neg c3] at k
    refine ifF (decide_eq_false (by omega)) ⟨_, rfl, _, _, rfl, rfl, _, rfl, ?_⟩
    by_cases c4 : kd = 31
    · rw [if_pos c4] at k
      refine ifT (decide_eq_true (by omega)) ⟨_, rfl, _, rfl, a, up p, (n : Int), rfl, ha, by omega, tb, fun H1 k1 t1 => ?_⟩
      rw [m_nth hp.inc]
      exact there _ H1 k1 t1 k
    rw [if_neg c4] at k
    refine ifF (decide_eq_false (by omega)) ⟨_, rfl, _, _, rfl, rfl, _, rfl, ?_⟩
    by_cases c5 : kd = 32
    · rw [if_pos c5] at k
      refine ifT (decide_eq_true (by omega)) ⟨_, rfl, _, rfl, a, up p, (n : Int), rfl, ha, by omega, tb, fun H1 marks k1 t1 hm => ⟨s1, fun m hm2 => ?_⟩⟩
      have e : ([(n : Int)] : List Int) = up [n] := rfl
      rw [e] at hm
      have z := k _ m (k1.trans (Kp.new hm2)) (tab_new t1 hm2) ((NL.new hm2).back k1) upd_same
      rw [show up [Vabita.rank p n] = [((Vabita.rank p n : Nat) : Int)] from rfl, ← m_rank hp.inc, show Vabita.less p [n] = wordS .less p [n] from rfl, ← m_comb .less p [n] hm] at z
      exact z
    rw [if_neg c5] at k
    exact ifF (decide_eq_false (by omega)) ⟨_, rfl, _, rfl, a, p, n, rfl, ha, hp, tb, k⟩
end
end Ms
end

/-! text U7 -/
section
set_option Elab.async false
set_option linter.all false
set_option maxRecDepth 100000
set_option maxHeartbeats 4000000
namespace Ms
open PySem PySem.Spec PyProof.Rows L2 HotX
theorem blanks_len : ∀ {l : List (List Nat)}, (∀ x ∈ l, x.length ≤ 30) → (Vabita.blanks l).length ≤ 31 * l.length
  | [], _ => by simp [Vabita.blanks]
  | [w], h => by
    have := h w (by simp)
    show w.length ≤ 31
    omega
  | w :: v :: r, h => by
    have h1 := h w (by simp)
    have h2 := blanks_len (l := v :: r) fun x hx => h x (List.mem_cons_of_mem _ hx)
    show (w ++ (32 :: Vabita.blanks (v :: r))).length ≤ _
    rw [List.length_append, List.length_cons]
    simp only [List.length_cons] at h2 ⊢
    omega
theorem shown_len {p : List Nat} (h : OkS p) : (Vabita.shown p).length ≤ 3000 := by
  unfold Vabita.shown
  split
  · decide
  · split
    · decide
    · have h1 := blanks_len (l := (Vabita.pieces p).map Vabita.showPiece) fun x hx => by
        obtain ⟨y, hy, rfl⟩ := List.mem_map.mp hx
        exact show_len (pieces_small h.le y hy)
      have h2 := pcs_length (up p)
      rw [pcs_up, List.length_map, up_len] at h2
      rw [List.length_map] at h1
      have := h.len
      omega
def askS (k : Nat) (qs : List (List Nat)) (ns : List Nat) : Res :=
  if k = 2 then .ok ((qs.getD 0 []).length :: qs.getD 0 []) else if k = 4 then .ok ((Vabita.shown (qs.getD 0 [])).length :: Vabita.shown (qs.getD 0 [])) else if k = 26 then foundS (qs.getD 0 []).head? else if k = 27 then lastS (qs.getD 0 []) else if k = 28 then sizeS (qs.getD 0 [])
  else if k = 33 then .ok [(Vabita.pieces (qs.getD 0 [])).length, (Vabita.endless (qs.getD 0 [])).toNat] else if k = 35 ∨ k = 36 then twoS k (qs.getD 0 []) (qs.getD 1 []) else withS k (qs.getD 0 []) (ns.getD 0 0)
section
variable {P : Program} {w : World} {K : PySem.W.Frag} {mg : Str → Option Value} {base : Heap} {J RF NT W : Addr}
/-! asked -/
def spAsked (J RF : Addr) : Sp := fun vs H Q E => ∃ (k : Nat) (s b : Addr) (qs : List (List Nat)) (ns : List Nat), vs = [.int (k : Int), .ref s, .ref b] ∧ (k = 2 ∨ k = 4 ∨ (25 ≤ k ∧ k < 37)) ∧ (∃ rs, H s = some (.lst (rs.map V.ref)) ∧ Sets H rs qs) ∧ IL H b (up ns) ∧ (∀ p ∈ qs, OkS p) ∧ shp[k]? = some (qs.length, ns.length) ∧ Tab J H ∧ Gives J RF H Q E (askS k qs ns)
theorem sc_asked : FnScope ["kind", "sets", "numbers", "held", "text", "sign"] ["kind", "sets", "numbers"] (defScope (top 87)) := ⟨rfl, rfl, rfl, by decide +kernel, rfl, by decide +kernel, by decide +kernel⟩
theorem sh_d : ∀ k, 25 ≤ k → k < 37 → ∀ m n, shp[k]? = some (m, n) → (1 ≤ m) ∧ (m = 2 ↔ (k = 35 ∨ k = 36)) ∧ (k ≠ 26 → k ≠ 27 → k ≠ 28 → k ≠ 33 → k ≠ 35 → k ≠ 36 → n = 1) := by
  intro k hk hk2 m n h
  have : k = 25 ∨ k = 26 ∨ k = 27 ∨ k = 28 ∨ k = 29 ∨ k = 30 ∨ k = 31 ∨ k = 32 ∨ k = 33 ∨ k = 34 ∨ k = 35 ∨ k = 36 := by omega
  rcases this with rfl | rfl | rfl | rfl | rfl | rfl | rfl | rfl | rfl | rfl | rfl | rfl <;> (simp [shp] at h; omega)
theorem sh_1 : ∀ k, (k = 2 ∨ k = 4 ∨ (25 ≤ k ∧ k < 37)) → ∀ m n, shp[k]? = some (m, n) → 1 ≤ m := by
  intro k hk m n h
  rcases hk with rfl | rfl | ⟨h1, h2⟩
  · simp [shp] at h; omega
  · simp [shp] at h; omega
  · exact (sh_d k h1 h2 m n h).1
theorem ok_asked (d : DefAt K "asked" (top 87)) (G : Gm K mg) (B : Bi mg) (gB : GC mg "BOUNDS" (.int 2)) (gS : GC mg "SHOW" (.int 4)) (F1 : Fn P w K mg base CX0 3 "text_of" ["bounds"] (spText J)) (F2 : Fn P w K mg base (L2.CX P w) 4 "need_there" ["moment"] (spThere J RF)) (F3 : Fn P w K mg base CX0 3 "next_of" ["bounds", "moment"] (spNext J))
    (F4 : Fn P w K mg base (L2.CX P w) 4 "last" ["bounds"] (spLast J RF)) (F5 : Fn P w K mg base (L2.CX P w) 4 "whole_size" ["bounds"] (spWhole J RF)) (F6 : Fn P w K mg base CX0 2 "pieces_of" ["bounds"] (spPcs J)) (F7 : Fn P w K mg base CX0 1 "is_endless" ["bounds"] (spEnd J))
    (F8 : Fn P w K mg base (L2.CX P w) 5 "asked_of_two" ["kind", "one", "two"] (spTwo J RF)) (F9 : Fn P w K mg base (L2.CX P w) 5 "asked_with" ["kind", "held", "n"] (spWith J RF)) :
    Fn P w K mg base (L2.CX P w) 6 "asked" ["kind", "sets", "numbers"] (spAsked J RF) := by
  refine d.fnG G sc_asked (fun _ _ _ _ _ _ us hl => match us, hl with | [_, _, _], _ => rfl) (fun vs H Q E h => ?_) (fun f cdv A outer s H vs Q E hr h => ?_)
  · obtain ⟨k, s, b, qs, ns, rfl, _⟩ := h
    rfl
  · obtain ⟨kd, sa, b, qs, ns, rfl, hk, ⟨rs, hs, hrs⟩, hnm, oks, hsh, tb, k⟩ := h
    have hr1 := hr.mono (show 1 ≤ 5 by decide)
    have hr2 := hr.mono (show 2 ≤ 5 by decide)
    have hr3 := hr.mono (show 3 ≤ 5 by decide)
    have hr4 := hr.mono (show 4 ≤ 5 by decide)
    have tk : L2.Takes (cxOf (L2.CX P w) P w K mg base ["kind", "sets", "numbers", "held", "text", "sign"] "asked" (defScope (top 87)) f cdv A outer s H E) (fun cls d _ H => E cls d H) := L2.takes_of rfl rfl rfl rfl
    have px : Passes (L2.CX P w) (cxOf (L2.CX P w) P w K mg base ["kind", "sets", "numbers", "held", "text", "sign"] "asked" (defScope (top 87)) f cdv A outer s H E) E := L2.passes_call tk (fun _ _ _ _ h => h)
    refine ⟨_, pss_cons (ps_set (i := 3) sc_asked.nd rfl (Or.inl rfl) (pe_ix ix_list (pv 1) pe_int (fun _ _ => rfl)))
      (pss_cons (ps_if (pt_cmp (pc_eqI (pv 0) (pe_gcv rfl gB))) (pss_one (ps_ret (pe_op op_cat (pe_lst (pa_cons (pe_callB call_len_seq (by rfl) B.len PySem.boot_len (pa_cons (pv 3) pa_nil)) pa_nil)) (pv 3)))) pss_nil)
      (pss_cons (ps_if (pt_cmp (pc_eqI (pv 0) (pe_gcv rfl gS))) (pss_cons (ps_set (i := 4) sc_asked.nd rfl (Or.inl rfl) (pe_fn F1 hr3 (pa_cons (pv 3) pa_nil)))
        (pss_one (ps_ret (pe_op op_cat (pe_lst (pa_cons (pe_callB call_len_str (by rfl) B.len PySem.boot_len (pa_cons (pv 4) pa_nil)) pa_nil)) (pe_lc (own := [("sign", 5)]) (g := gName 5) rfl sc_asked.nd (pi_str (pv 4)) (blkOk_by (N := ["kind", "sets", "numbers", "held", "text", "sign"]) (sc := defScope (top 87)) (by decide +kernel)) (fun _ _ _ _ _ => pg_name (i := 5) sc_asked.nd rfl (Or.inl rfl)) (fun _ _ _ _ _ => pts_nil)
          (fun _ _ _ _ _ => pe_callB call_ord (by rfl) B.ord (by decide +kernel) (pa_cons (pv 5) pa_nil))))))) pss_nil)
      (pss_cons (ps_if (pt_cmp (pc_eqI (pv 0) pe_int)) (pss_one (ps_ret (pe_lst (pa_cons (pe_fnX F2 hr4 px (pa_cons (pe_fn F3 hr3 (pa_cons (pv 3) (pa_cons pe_int pa_nil))) pa_nil)) pa_nil)))) pss_nil)
      (pss_cons (ps_if (pt_cmp (pc_eqI (pv 0) pe_int)) (pss_one (ps_ret (pe_lst (pa_cons (pe_fnX F4 hr4 px (pa_cons (pv 3) pa_nil)) pa_nil)))) pss_nil)
      (pss_cons (ps_if (pt_cmp (pc_eqI (pv 0) pe_int)) (pss_one (ps_ret (pe_lst (pa_cons (pe_fnX F5 hr4 px (pa_cons (pv 3) pa_nil)) pa_nil)))) pss_nil)
      (pss_cons (ps_if (pt_cmp (pc_eqI (pv 0) pe_int)) (pss_one (ps_ret (pe_lst (pa_cons (pe_callB call_len_seq (by rfl) B.len PySem.boot_len (pa_cons (pe_fn F6 hr2 (pa_cons (pv 3) pa_nil)) pa_nil)) (pa_cons (pe_callTy call_int1 (by rfl) B.int (by decide +kernel) (pa_cons (pe_fn F7 hr1 (pa_cons (pv 3) pa_nil)) pa_nil)) pa_nil))))) pss_nil)
      (pss_cons (ps_if (pt_cmp (pc_eqI (pe_callB call_len_seq (by rfl) B.len PySem.boot_len (pa_cons (pv 1) pa_nil)) pe_int)) (pss_one (ps_ret (pe_fnX F8 hr px (pa_cons (pv 0) (pa_cons (pe_ix ix_list (pv 1) pe_int (fun _ _ => rfl)) (pa_cons (pe_ix ix_list (pv 1) pe_int (fun _ _ => rfl)) pa_nil)))))) pss_nil)
      (pss_one (ps_ret (pe_fnX F9 hr px (pa_cons (pv 0) (pa_cons (pv 3) (pa_cons (pe_ix ix_list (pv 2) pe_int (fun _ _ => rfl)) pa_nil))))))))))))), ?_⟩
    have s1 : 1 ≤ sizeLine := by decide
    have hm1 := sh_1 kd hk _ _ hsh
    obtain ⟨p, qr, rfl⟩ : ∃ p qr, qs = p :: qr := by
      cases qs with
      | nil => simp at hm1
      | cons p qr => exact ⟨p, qr, rfl⟩
    have hp := oks p (by simp)
    cases hrs with
    | @cons ra _ rs' _ h0 hrr =>
      have l1 := hp.len
      have lu : (up p).length ≤ 3000 := by rw [up_len]; omega
      refine ⟨_, rfl, sa, _, 0, V.ref ra, rfl, rfl, SqL.of hs, by exact atI_nat rfl, ?_⟩
      unfold askS at k
      refine ⟨_, rfl, _, _, rfl, rfl, _, rfl, ?_⟩
      by_cases c2 : kd = 2
      · rw [if_pos c2] at k
        refine ifT (decide_eq_true (by omega)) ⟨_, rfl, ra, _, rfl, .inl (SqL.of h0), s1, fun m hm => ?_⟩
        have km : Kp J H (upd H m (.lst [V.int (((up p).map V.int).length : Int)])) := Kp.new hm
        refine ⟨_, rfl, m, ra, _, _, rfl, rfl, upd_same, km.lst h0, ?_, fun q hq => ?_⟩
        · show 1 + ((up p).map V.int).length ≤ sizeLine
          rw [List.length_map, up_len]
          exact Nat.le_trans (show 1 + p.length ≤ 3000 by omega) (by decide)
        · refine k _ q (km.trans (Kp.new hq)) (tab_new (km.tab tb) hq) ((NL.new hq).back km) ?_
          rw [IL, upd_same]
          have e : (((up p).map V.int).length : Int) = (p.length : Int) := by rw [List.length_map, up_len]
          rw [e]
          rfl
      rw [if_neg c2] at k
      refine ifF (decide_eq_false (by omega)) ⟨_, rfl, _, _, rfl, rfl, _, rfl, ?_⟩
      by_cases c4 : kd = 4
      · rw [if_pos c4] at k
        have ls := shown_len hp
        have lt : (⟨(Vabita.shown p).toArray⟩ : Str).length = (Vabita.shown p).length := by rw [TL.len_tl, TL.tl_mk]
        refine ifT (decide_eq_true (by omega)) ⟨_, rfl, ra, p, rfl, h0, by omega, hp.le, tb, fun H1 k1 t1 => ?_⟩
        refine ⟨_, rfl, _, rfl, by rw [lt]; exact Nat.le_trans ls (by decide), s1, fun m hm => ?_⟩
        have km : Kp J H1 (upd H1 m (.lst [V.int ((⟨(Vabita.shown p).toArray⟩ : Str).length : Int)])) := Kp.new hm
        have tm := km.tab t1
        have hm' : upd H1 m (.lst [V.int ((⟨(Vabita.shown p).toArray⟩ : Str).length : Int)]) m = some (.lst [V.int ((Vabita.shown p).length : Int)]) := by rw [upd_same, lt]
        refine ⟨_, rfl, _, rfl, fun D hD => lc_it (walk_str (z := ⟨(Vabita.shown p).toArray⟩)) (LcP J _ D (RIn fun i => ((Vabita.shown p).take i).map fun (c : Nat) => (c : Int))) (LcP.startI hD tm rfl) (fun i H' _ q => trivial) (fun i x H' H2 hi q y => ?_) (fun H' q => ?_)⟩
        · obtain ⟨rfl, c, hc, rfl⟩ := y
          have hc' : (Vabita.shown p)[i]? = some c := by
            rw [← Array.getElem?_toList] at hc
            exact hc
          refine ⟨rfl, _, rfl, _, rfl, rfl, q.appI Kp.refl ?_ ?_⟩
          · rw [take_snoc hc', List.map_append]
            rfl
          · rw [List.length_map, List.length_take]
            omega
        · have hD' := q.endI
          have es : ((⟨(Vabita.shown p).toArray⟩ : Str).cps.size) = (Vabita.shown p).length := by simp
          rw [es, List.take_length] at hD'
          refine ⟨m, D, _, _, rfl, rfl, q.kp.lst hm', hD', ?_, fun r hr => ?_⟩
          · show 1 + _ ≤ sizeLine
            rw [List.length_map, List.length_map]
            exact Nat.le_trans (show 1 + (Vabita.shown p).length ≤ 4000 by omega) (by decide)
          · have kk := (k1.trans km).trans q.kp
            refine k _ r (kk.trans (Kp.new hr)) (tab_new q.tab hr) ((NL.new hr).back kk) ?_
            rw [IL, upd_same]
            rfl
      rw [if_neg c4] at k
      have h25 : 25 ≤ kd ∧ kd < 37 := by omega
      obtain ⟨s2, s3, s4⟩ := sh_d kd h25.1 h25.2 _ _ hsh
      refine ifF (decide_eq_false (by omega)) ⟨_, rfl, _, _, rfl, rfl, _, rfl, ?_⟩
      by_cases c26 : kd = 26
      · rw [if_pos c26] at k
        refine ifT (decide_eq_true (by omega)) ⟨_, rfl, ra, up p, 0, rfl, h0, by omega, tb, fun H1 k1 t1 => ?_⟩
        rw [show (0 : Int) = ((0 : Nat) : Int) from rfl, m_next hp.inc, m_first hp.inc]
        have k' : Gives J RF H Q E (foundS p.head?) := k
        cases e : p.head? with
        | none =>
          rw [e] at k'
          exact ⟨none, rfl, t1, fun t h => (by cases h), fun _ => RefX.on k' k1⟩
        | some t =>
          rw [e] at k'
          refine ⟨some (t : Int), rfl, t1, fun t' h => ?_, fun h => (by cases h)⟩
          cases h
          exact ⟨s1, fun m hm => k' _ m (k1.trans (Kp.new hm)) (tab_new t1 hm) ((NL.new hm).back k1) upd_same⟩
      rw [if_neg c26] at k
      have gn : ∀ r : Res, (∀ l, r = .ok l → ∃ n, l = [n]) → Gives J RF H Q E r → GivesN J RF H (fun v H2 => 1 ≤ sizeLine ∧ ∀ m, H2 m = none → Q (.ref m) (upd H2 m (.lst [v]))) E r := fun r hr g => by
        cases r with
        | no n => exact g
        | ok l =>
          obtain ⟨n, rfl⟩ := hr l rfl
          exact fun H' kp tp => ⟨s1, fun m hm => g _ m (kp.trans (Kp.new hm)) (tab_new tp hm) ((NL.new hm).back kp) upd_same⟩
      refine ifF (decide_eq_false (by omega)) ⟨_, rfl, _, _, rfl, rfl, _, rfl, ?_⟩
      by_cases c27 : kd = 27
      · rw [if_pos c27] at k
        refine ifT (decide_eq_true (by omega)) ⟨_, rfl, ra, p, rfl, h0, hp, tb, gn _ (fun l e => ?_) k⟩
        unfold lastS at e
        split at e
        · cases e
        · unfold foundS at e
          split at e
          · cases e; exact ⟨_, rfl⟩
          · cases e
      rw [if_neg c27] at k
      refine ifF (decide_eq_false (by omega)) ⟨_, rfl, _, _, rfl, rfl, _, rfl, ?_⟩
      by_cases c28 : kd = 28
      · rw [if_pos c28] at k
        refine ifT (decide_eq_true (by omega)) ⟨_, rfl, ra, p, rfl, h0, hp, tb, gn _ (fun l e => ?_) k⟩
        unfold sizeS at e
        split at e
        · cases e
        · cases e; exact ⟨_, rfl⟩
      rw [if_neg c28] at k
      refine ifF (decide_eq_false (by omega)) ⟨_, rfl, _, _, rfl, rfl, _, rfl, ?_⟩
      by_cases c33 : kd = 33
      · rw [if_pos c33] at k
        refine ifT (decide_eq_true (by omega)) ⟨_, rfl, ra, up p, rfl, h0, by omega, fun H1 q k1 h1 => ?_⟩
        rw [pcs_up] at h1
        obtain ⟨ts, hq, hts⟩ := h1
        refine ⟨q, _, rfl, .inl (SqL.of hq), _, rfl, ra, up p, rfl, k1.lst h0, .inr ⟨_, rfl, ?_, fun m hm => ?_⟩⟩
        · show 2 ≤ sizeLine
          decide
        · refine k _ m (k1.trans (Kp.new hm)) (tab_new (k1.tab tb) hm) ((NL.new hm).back k1) ?_
          have e1 : ((ts.map V.ref).length : Int) = ((Vabita.pieces p).length : Int) := by rw [List.length_map, paired_len hts, List.length_map]
          have e2 : (if endI (up p) = true then (1 : Int) else 0) = ((Vabita.endless p).toNat : Int) := by rw [end_up]; cases Vabita.endless p <;> rfl
          rw [IL, upd_same]
          show some (HO.lst [V.int ((ts.map V.ref).length : Int), V.int (if endI (up p) = true then (1 : Int) else 0)]) = _
          rw [e1, e2]
          rfl
      rw [if_neg c33] at k
      refine ifF (decide_eq_false (by omega)) ⟨_, rfl, sa, _, rfl, .inl (SqL.of hs), _, _, rfl, rfl, _, rfl, ?_⟩
      have el : (((ra :: rs').map V.ref).length : Int) = (((p :: qr).length : Nat) : Int) := by
        rw [List.length_map, List.length_cons, List.length_cons, paired_len hrr]
      by_cases c35 : kd = 35 ∨ kd = 36
      · rw [if_pos c35] at k
        have e2 : (p :: qr).length = 2 := s3.mpr c35
        obtain ⟨q, rfl⟩ : ∃ q, qr = [q] := by
          match qr, e2 with
          | [q], _ => exact ⟨q, rfl⟩
        cases hrr with
        | cons hq0 hn =>
          cases hn
          exact ifT (decide_eq_true rfl) ⟨_, rfl, _, rfl, sa, _, 0, _, rfl, rfl, SqL.of hs, by exact atI_nat rfl, _, rfl, sa, _, 1, _, rfl, rfl, SqL.of hs, by exact atI_nat rfl, kd, _, _, p, q, rfl, h0, hq0, hp, oks q (by simp), tb, k⟩
      rw [if_neg c35] at k
      have nl2 : ¬ (((ra :: rs').map V.ref).length : Int) = 2 := fun z => c35 (s3.mp (by rw [el] at z; omega))
      have n1 := s4 c26 c27 c28 c33 (fun z => c35 (.inl z)) (fun z => c35 (.inr z))
      obtain ⟨n, rfl⟩ : ∃ n, ns = [n] := by
        match ns, n1 with
        | [n], _ => exact ⟨n, rfl⟩
      exact ifF (decide_eq_false nl2) ⟨_, rfl, _, rfl, _, rfl, b, _, 0, V.int n, rfl, rfl, SqL.of hnm, by exact atI_nat rfl, kd, ra, p, n, rfl, h0, hp, tb, k⟩
end
end Ms
end

/-! text U8 -/
section
set_option Elab.async false
set_option linter.all false
set_option maxRecDepth 100000
set_option maxHeartbeats 4000000
namespace Ms
open PySem PySem.Spec PyProof.Rows L2 HotX
abbrev sGI : Stmt := inClass (top 71) 0
abbrev sGP : Stmt := inClass (top 71) 1
/-- Registers -/
structure RgF (K : PySem.W.Frag) (mg : Str → Option Value) (C : Addr) : Prop where
  g : mg "Registers" = some (.ref C)
  cl : Cls K C
  nS : NoAttr K C "sets"
  i : ∃ (fI : Addr) (fd : FuncData), Mk K C fI ∧ Fun K "__init__" "Registers.__init__" sGI fI fd
  p : ∃ (fP : Addr) (fd : FuncData), Meth K C "put" fP ∧ Fun K "put" "Registers.put" sGP fP fd
/-- all stands but the list at ss -/
structure Ks (J ss : Addr) (H H' : Hp) : Prop where
  ext : ∀ b o, H b = some o → b ≠ ss → (∀ ps, o ≠ .tbl ps) → H' b = some o
  tab : Tab J H → Tab J H'
section
variable {J ss : Addr} {H H1 H2 : Hp}
theorem Ks.of (k : Kp J H H1) : Ks J ss H H1 := ⟨fun b o e _ n => k.ext b o e n, k.tab⟩
theorem Ks.then (a : Ks J ss H H1) (b : Kp J H1 H2) : Ks J ss H H2 := ⟨fun c o e n m => b.ext c o (a.ext c o e n m) m, fun t => b.tab (a.tab t)⟩
theorem Ks.after (a : Kp J H H1) (b : Ks J ss H1 H2) : Ks J ss H H2 := ⟨fun c o e n m => b.ext c o (a.ext c o e m) n m, fun t => b.tab (a.tab t)⟩
theorem Ks.lst {a : Addr} {xs : List V} (k : Ks J ss H H1) (h : H a = some (.lst xs)) (n : a ≠ ss) : H1 a = some (.lst xs) := k.ext _ _ h n fun ps z => by cases z
theorem Ks.upd {xs ys : List V} (h : H ss = some (.lst xs)) : Ks J ss H (upd H ss (.lst ys)) := ⟨fun b o e n _ => by rw [upd_ne n]; exact e, fun t => tab_upd t h⟩
end
/-- the registers at r: its list at ss, its sets at rs -/
def RegAt (C r ss : Addr) (H : Hp) (rs : List Addr) : Prop := (∃ dx, H r = some (.ins C dx [("sets", .ref ss)])) ∧ H ss = some (.lst (rs.map V.ref))
theorem RegAt.on {J C r ss : Addr} {H H' : Hp} {rs : List Addr} (h : RegAt C r ss H rs) (k : Kp J H H') : RegAt C r ss H' rs := by
  obtain ⟨⟨dx, h1⟩, h2⟩ := h
  exact ⟨⟨dx, k.ext _ _ h1 fun ps z => by cases z⟩, k.lst h2⟩
theorem set_ne {H : Hp} {ss a : Addr} {rs : List Addr} {ns : List Int} (hs : H ss = some (.lst (rs.map V.ref))) (hr : rs ≠ []) (ha : IL H a ns) : a ≠ ss := fun z => by
  rw [IL, z, hs] at ha
  cases rs with
  | nil => exact hr rfl
  | cons x r =>
    cases ns with
    | nil => cases ha
    | cons => injection ha with ha; injection ha with ha; injection ha with ha; cases ha
theorem ixN_of {n j : Nat} (h : j < n) : ixN n (j : Int) = some j := by
  unfold ixN
  rw [if_pos (by omega), if_pos (by omega)]
  simp
section
variable {P : Program} {w : World} {K : PySem.W.Frag} {mg : Str → Option Value} {base : Heap} {J RF NT W C : Addr}
/-! Registers.put -/
def spMPut (C : Addr) : Sp := fun vs H Q _ => ∃ (r ss a : Addr) (i : Nat) (rs : List Addr), vs = [.ref r, .int (i : Int), .ref a] ∧ RegAt C r ss H rs ∧ i < rs.length ∧ Q .non (upd H ss (.lst ((rs.set i a).map V.ref)))
theorem sc_mput : FnScope ["self", "number", "bounds"] ["self", "number", "bounds"] (defScope sGP) := ⟨rfl, rfl, rfl, by decide +kernel, rfl, by decide +kernel, by decide +kernel⟩
theorem ok_mput {fP : Addr} {fd : FuncData} (F : Fun K "put" "Registers.put" sGP fP fd) (R : RgF K mg C) : FnOk P w K mg base CX0 1 fP fd ["self", "number", "bounds"] (spMPut C) := by
  refine F.ok sc_mput (fun vs H Q E h => ?_) (fun cdv A outer s H vs Q E hr h => ?_)
  · obtain ⟨r, ss, a, i, rs, rfl, _⟩ := h
    rfl
  · obtain ⟨r, ss, a, i, rs, rfl, ⟨⟨dx, h1⟩, h2⟩, hi, k⟩ := h
    refine ⟨_, pss_one (ps_asg (pv 2) (pg_sub (pe_fld (pv 0) rfl) (pv 1) set_list)), ?_⟩
    refine ⟨_, rfl, _, rfl, r, C, dx, _, V.ref ss, rfl, h1, R.cl, R.nS, rfl, _, rfl, ss, _, (i : Int), i, rfl, rfl, h2, ?_, ?_⟩
    · rw [List.length_map]
      exact ixN_of hi
    · rw [show ((rs.map V.ref).set i (V.ref a)) = (rs.set i a).map V.ref from List.map_set.symm]
      exact k
/-! put -/
def putS (p : List Nat) : Option Int := if (p.any fun b => decide (Vabita.LAST < b)) = true then some (-5) else if Vabita.MOST < p.length then some (-6) else none
def spPut (J RF C : Addr) : Sp := fun vs H Q E => ∃ (r ss a : Addr) (i : Nat) (rs : List Addr) (p : List Nat), vs = [.ref r, .int (i : Int), .ref a] ∧ RegAt C r ss H rs ∧ i < rs.length ∧ IL H a (up p) ∧ IncN p ∧ Tab J H ∧
  (∀ n, putS p = some n → RefX J RF E H n) ∧ (putS p = none → ∀ H' q, Ks J ss H H' → Tab J H' → H' ss = some (.lst ((rs.set i a).map V.ref)) → IL H' a (up p) → NL H q → IL H' q (up [p.length]) → Q (.ref q) H')
theorem sc_put : FnScope ["registers", "number", "bounds"] ["registers", "number", "bounds"] (defScope (top 80)) := ⟨rfl, rfl, rfl, by decide +kernel, rfl, by decide +kernel, by decide +kernel⟩
theorem last_any {r : List Nat} {x : Nat} (h : IncN (r ++ [x])) : ((r ++ [x]).any fun b => decide (Vabita.LAST < b)) = decide (Vabita.LAST < x) := by
  rw [Bool.eq_iff_iff, List.any_eq_true, decide_eq_true_iff]
  constructor
  · rintro ⟨b, hb, hl⟩
    have hl := of_decide_eq_true hl
    rcases List.mem_append.mp hb with hb | hb
    · have : b < x := (List.pairwise_append.mp h).2.2 b hb x (by simp)
      omega
    · simp at hb
      omega
  · intro hl
    exact ⟨x, by simp, decide_eq_true hl⟩
theorem ok_put (d : DefAt K "put" (top 80)) (G : Gm K mg) (B : Bi mg) (R : RgF K mg C) (gM : GC mg "MOST" (.int 1000000000)) (gB : GC mg "MOST_BOUNDS" (.int 64)) (g5 : GC mg "TOO_GREAT" (.int (-5))) (g6 : GC mg "TOO_MANY" (.int (-6))) (F1 : Fn P w K mg base (L2.CX P w) 3 "need" ["truth", "number"] (spNeed J RF)) :
    Fn P w K mg base (L2.CX P w) 4 "put" ["registers", "number", "bounds"] (spPut J RF C) := by
  obtain ⟨fP, fd, mP, FP⟩ := R.p
  have bP : Binds K fd ["self", "number", "bounds"] [] := FP.binds fun _ _ _ _ _ _ us hl => match us, hl with | [_, _, _], _ => rfl
  refine d.fnG G sc_put (fun _ _ _ _ _ _ us hl => match us, hl with | [_, _, _], _ => rfl) (fun vs H Q E h => ?_) (fun f cdv A outer s H vs Q E hr h => ?_)
  · obtain ⟨r, ss, a, i, rs, p, rfl, _⟩ := h
    rfl
  · obtain ⟨r, ss, a, i, rs, p, rfl, hR, hi, ha, hp, tb, k1, k2⟩ := h
    have hr1 := hr.mono (show 1 ≤ 3 by decide)
    have tk : L2.Takes (cxOf (L2.CX P w) P w K mg base ["registers", "number", "bounds"] "put" (defScope (top 80)) f cdv A outer s H E) (fun cls d _ H => E cls d H) := L2.takes_of rfl rfl rfl rfl
    have px : Passes (L2.CX P w) (cxOf (L2.CX P w) P w K mg base ["registers", "number", "bounds"] "put" (defScope (top 80)) f cdv A outer s H E) E := L2.passes_call tk (fun _ _ _ _ h => h)
    refine ⟨_, pss_cons (ps_expr (pe_fnX F1 hr px (pa_cons (pe_or (pe_cmpR (op_eqD hr.units) (pv 2) (pe_lst pa_nil) (nomark _)) (pe_one (pe_cmp (pc_le (pe_ix ix_list (pv 2) (pe_un un_neg pe_int) (fun _ _ => rfl)) (pe_gcv rfl gM))))) (pa_cons (pe_gcv rfl g5) pa_nil))))
      (pss_cons (ps_expr (pe_fnX F1 hr px (pa_cons (pe_cmp (pc_le (pe_callB call_len_seq (by rfl) B.len PySem.boot_len (pa_cons (pv 2) pa_nil)) (pe_gcv rfl gB))) (pa_cons (pe_gcv rfl g6) pa_nil))))
      (pss_cons (ps_expr (pe_meth (E := E0) (pv 0) R.cl mP (ok_mput FP R) hr1 bP .nil pass0 (pa_cons (pv 1) (pa_cons (pv 2) pa_nil))))
      (pss_one (ps_ret (pe_lst (pa_cons (pe_callB call_len_seq (by rfl) B.len PySem.boot_len (pa_cons (pv 2) pa_nil)) pa_nil)))))), ?_⟩
    have rne : rs ≠ [] := fun z => by rw [z] at hi; simp at hi
    refine ⟨_, rfl, Nat.zero_le _, fun e he => ?_⟩
    have ke : Kp J H (upd H e (.lst [])) := Kp.new he
    have ha2 := ke.lst ha
    have te := ke.tab tb
    refine ⟨_, _, dp_il ha2, Dp.lst (SqL.of upd_same) .nil, sh_ints _, rfl, _, rfl, ?_⟩
    rw [eqv_up]
    -- behind the first need
    have rest : (p.any fun b => decide (Vabita.LAST < b)) = false → (tSeq (tDrop (tCall (spNeed J RF) [] E (tCons (tLe (tCB (fun xs H Q => ∃ p ys, xs = [.ref p] ∧ (SqL K H p ys ∨ SqT K H p ys) ∧ Q (.int ys.length) H) (tCons (tVar 2) tNil)) (tC (.int 64))) (tCons (tC (.int (-6))) tNil)))) (tSeq (tDrop (tMeth C "put" (spMPut C) [] E0 (tVar 0) (tCons (tVar 1) (tCons (tVar 2) tNil)))) (tRet (tLst (tCons (tCB (fun xs H Q => ∃ p ys, xs = [.ref p] ∧ (SqL K H p ys ∨ SqT K H p ys) ∧ Q (.int ys.length) H) (tCons (tVar 2) tNil)) tNil))))) { nx := fun _ H' => Q .non H', rt := Q } [some (.ref r), some (.int (i : Int)), some (.ref a)] (upd H e (.lst [])) := fun hany => by
      refine ⟨_, rfl, a, _, rfl, .inl (SqL.of ha2), _, _, rfl, rfl, _, -6, rfl, te, fun hb => ?_, fun hb => ?_⟩
      · have hl : ¬ Vabita.MOST < p.length := by
          have : (((up p).map V.int).length : Int) ≤ 64 := of_decide_eq_true hb
          rw [List.length_map, up_len] at this
          unfold Vabita.MOST
          omega
        have hput : putS p = none := by
          unfold putS
          rw [if_neg (by rw [hany]; exact Bool.false_ne_true), if_neg hl]
        obtain ⟨⟨dx, hr1⟩, hr2⟩ := hR.on ke
        refine ⟨_, rfl, r, dx, _, rfl, hr1, rfl, _, rfl, _, rfl, r, ss, a, i, rs, rfl, ⟨⟨dx, hr1⟩, hr2⟩, hi, ?_⟩
        have ks : Ks J ss H (upd (upd H e (.lst [])) ss (.lst ((rs.set i a).map V.ref))) := Ks.after ke (Ks.upd hr2)
        have nas := set_ne hr2 rne ha2
        have ha3 : upd (upd H e (.lst [])) ss (.lst ((rs.set i a).map V.ref)) a = some (.lst ((up p).map V.int)) := by rw [upd_ne nas]; exact ha2
        refine ⟨_, rfl, a, _, rfl, .inl (SqL.of ha3), (by show 1 ≤ sizeLine; decide), fun q hq => ?_⟩
        have kq : Kp J _ (upd (upd (upd H e (.lst [])) ss (.lst ((rs.set i a).map V.ref))) q (.lst [V.int (((up p).map V.int).length : Int)])) := Kp.new hq
        refine k2 hput _ q (ks.then kq) (kq.tab (ks.tab tb)) (kq.lst upd_same) (kq.lst ha3) ?_ ?_
        · intro xs z
          have nq : q ≠ ss := fun z2 => by rw [z2, upd_same] at hq; cases hq
          rw [upd_ne nq] at hq
          have := ke.lst z
          rw [hq] at this
          cases this
        · rw [IL, upd_same, List.length_map, up_len]
          rfl
      · refine (k1 (-6) ?_).on ke
        unfold putS
        rw [if_neg (by rw [hany]; exact Bool.false_ne_true), if_pos]
        have : ¬ (((up p).map V.int).length : Int) ≤ 64 := of_decide_eq_false hb
        rw [List.length_map, up_len] at this
        unfold Vabita.MOST
        omega
    by_cases hne : p = []
    · subst hne
      exact ifT rfl ⟨true, -5, rfl, te, fun _ => rest rfl, fun h => (by cases h)⟩
    · refine ifF (decide_eq_false hne) ?_
      obtain ⟨q, x, rfl⟩ : ∃ q x, p = q ++ [x] := ⟨p.dropLast, p.getLast hne, (List.dropLast_concat_getLast hne).symm⟩
      have hne' : up (q ++ [x]) ≠ [] := fun z => hne (by unfold up at z; simpa using z)
      have el : (up (q ++ [x])).getLastD 0 = (x : Int) := by
        unfold up
        rw [List.map_append]
        exact List.getLastD_concat ..
      refine ⟨_, rfl, 1, rfl, a, _, -1, _, rfl, rfl, SqL.of ha2, atI_lastD hne', _, _, rfl, rfl, _, -5, rfl, te, fun hb => ?_, fun hb => ?_⟩
      · refine rest ?_
        rw [last_any hp, decide_eq_false_iff_not]
        have : (up (q ++ [x])).getLastD 0 ≤ 1000000000 := of_decide_eq_true hb
        rw [el] at this
        unfold Vabita.LAST
        omega
      · refine (k1 (-5) ?_).on ke
        unfold putS
        rw [if_pos]
        rw [last_any hp, decide_eq_true_iff]
        have : ¬ (up (q ++ [x])).getLastD 0 ≤ 1000000000 := of_decide_eq_false hb
        rw [el] at this
        unfold Vabita.LAST
        omega
end
end Ms
end

/-! text U9 -/
section
set_option Elab.async false
set_option linter.all false
set_option maxRecDepth 100000
set_option maxHeartbeats 4000000
namespace Ms
open PySem PySem.Spec PyProof.Rows L2 HotX
inductive Out3
  | no (n : Int)
  | tell (l : List Nat)
  | set (i : Nat) (p : List Nat)
def inG (n : Int) : Bool := decide (0 ≤ n) && decide (n < 8)
def isAsk (k : Nat) : Bool := decide (25 ≤ k) || (decide (k = 2) || decide (k = 4))
def doS (k : Nat) (qs : List (List Nat)) (ms : List Nat) (row : List Int) (i : Nat) : Out3 :=
  if isAsk k = true then (match askS k qs ms with | .ok l => .tell l | .no n => .no n)
  else match madeS k qs ms row with
    | .no n => .no n
    | .ok p => match putS p with
      | some n => .no n
      | none => .set i p
def accS (k : Nat) (ps : List (List Nat)) (is ns row : List Int) : Out3 :=
  if is.all inG = true then (if ns.all inR = true then doS k (is.map fun i => ps.getD i.toNat []) (ns.map Int.toNat) row (is.getD 0 0).toNat else .no (-1)) else .no (-1)
theorem made_inc {k : Nat} {qs : List (List Nat)} {ns : List Nat} {row : List Int} {p : List Nat} (hq : ∀ q ∈ qs, OkS q) (h : madeS k qs ns row = .ok p) : IncN p := by
  have hq1 : IncN (qs.getD 1 []) := by
    rw [List.getD_eq_getElem?_getD]
    cases e : qs[1]? with
    | none => exact List.Pairwise.nil
    | some q => exact (hq q (List.mem_of_getElem? e)).inc
  unfold madeS at h
  split at h
  · cases h; exact List.Pairwise.nil
  split at h
  · split at h
    · next e =>
      cases h
      unfold Vabita.boundsOf at e
      split at e
      · next c =>
        cases e
        rw [Bool.and_eq_true] at c
        exact inc_of c.2
      · cases e
    · cases h
  split at h
  · split at h
    · next e => cases h; exact inc_read e
    · cases h
  split at h
  · unfold changedS at h
    split at h
    · cases h
    · cases h; exact inc_word _ _ _
  split at h
  · cases h; exact inc_word _ _ _
  split at h
  · cases h; exact inc_normal _ _
  split at h
  · cases h; exact inc_normal _ _
  split at h
  · cases h; exact inc_normal _ _
  split at h
  · unfold runsS at h
    split at h
    · cases h; exact inc_normal _ _
    · cases h
  cases h
  unfold mbS
  split
  · exact inc_normal _ _
  split
  · exact inc_normal _ _
  split
  · exact inc_normal _ _
  split
  · exact inc_normal _ _
  split
  · exact inc_normal _ _
  split
  · exact inc_lasting hq1 _
  · exact inc_normal _ _
def Gives3 (J RF ss : Addr) (rs : List Addr) (H : Hp) (Q : VK) (E : XK) (o : Out3) : Prop := match o with
  | .no n => RefX J RF E H n
  | .tell l => ∀ H' a, Kp J H H' → Tab J H' → NL H a → IL H' a (up l) → Q (.ref a) H'
  | .set i p => ∀ H' a q, Ks J ss H H' → Tab J H' → H' ss = some (.lst ((rs.set i a).map V.ref)) → NL H a → IL H' a (up p) → NL H q → IL H' q (up [p.length]) → Q (.ref q) H'
theorem Gives3.on {J RF ss : Addr} {rs : List Addr} {H H1 : Hp} {Q : VK} {E : XK} {o : Out3} (g : Gives3 J RF ss rs H Q E o) (k : Kp J H H1) : Gives3 J RF ss rs H1 Q E o := by
  cases o with
  | no n => exact RefX.on g k
  | tell l => exact fun H' a kp tp na ha => g H' a (k.trans kp) tp (na.back k) ha
  | set i p => exact fun H' a q kp tp hs na ha nq hq => g H' a q (Ks.after k kp) tp hs (na.back k) ha (nq.back k) hq
/-- what a call finds -/
structure AcArgs (C : Addr) (H : Hp) (k : Nat) (r ss so nu ro : Addr) (rs : List Addr) (ps : List (List Nat)) (is ns row : List Int) : Prop where
  reg : RegAt C r ss H rs
  sets : Sets H rs ps
  oks : ∀ p ∈ ps, OkS p
  eight : rs.length = 8
  is_ : IL H so is
  ns_ : IL H nu ns
  rw_ : IL H ro row
  k37 : k < 37
  shape : shp[k]? = some (is.length, ns.length)
  put : row.length ≤ 2500
  read : k = 3 → ∀ n ∈ row, 0 ≤ n ∧ n < 256
theorem shp_pos {k m n : Nat} (h : shp[k]? = some (m, n)) : 1 ≤ m ∧ m ≤ 3 ∧ n ≤ 4 := by
  have : ∀ x ∈ shp, 1 ≤ x.1 ∧ x.1 ≤ 3 ∧ x.2 ≤ 4 := by decide
  exact this (m, n) (List.mem_of_getElem? h)
theorem up_back {ns : List Int} (h : ns.all inR = true) : up (ns.map Int.toNat) = ns := by
  unfold up
  rw [List.map_map]
  conv => rhs; rw [← List.map_id ns]
  apply List.map_congr_left
  intro n hn
  have := List.all_eq_true.mp h n hn
  unfold inR at this
  rw [Bool.and_eq_true] at this
  have := of_decide_eq_true this.1
  simp
  omega
section
variable {P : Program} {w : World} {K : PySem.W.Frag} {mg : Str → Option Value} {base : Heap} {J RF NT W C : Addr}
/-! accepted -/
def spAcc (J RF C : Addr) : Sp := fun vs H Q E => ∃ (k : Nat) (r ss so nu ro : Addr) (rs : List Addr) (ps : List (List Nat)) (is ns row : List Int), vs = [.ref r, .int (k : Int), .ref so, .ref nu, .ref ro] ∧ AcArgs C H k r ss so nu ro rs ps is ns row ∧ Tab J H ∧ Gives3 J RF ss rs H Q E (accS k ps is ns row)
theorem sc_acc : FnScope ["registers", "kind", "some", "numbers", "row", "number", "sets"] ["registers", "kind", "some", "numbers", "row"] (defScope (top 88)) := ⟨rfl, rfl, rfl, by decide +kernel, rfl, by decide +kernel, by decide +kernel⟩
theorem ok_acc (d : DefAt K "accepted" (top 88)) (G : Gm K mg) (B : Bi mg) (R : RgF K mg C) (gG : GC mg "REGISTERS" (.int 8)) (gM : GC mg "MOST" (.int 1000000000)) (g1 : GC mg "OUT_OF_RANGE" (.int (-1))) (gF : GC mg "FIRST_ASKED" (.int 25)) (gB : GC mg "BOUNDS" (.int 2)) (gS : GC mg "SHOW" (.int 4))
    (F1 : Fn P w K mg base (L2.CX P w) 3 "need" ["truth", "number"] (spNeed J RF)) (F2 : Fn P w K mg base (L2.CX P w) 6 "asked" ["kind", "sets", "numbers"] (spAsked J RF)) (F3 : Fn P w K mg base (L2.CX P w) 6 "made" ["kind", "sets", "numbers", "row"] (spMade J RF)) (F4 : Fn P w K mg base (L2.CX P w) 4 "put" ["registers", "number", "bounds"] (spPut J RF C)) :
    Fn P w K mg base (L2.CX P w) 7 "accepted" ["registers", "kind", "some", "numbers", "row"] (spAcc J RF C) := by
  refine d.fnG G sc_acc (fun _ _ _ _ _ _ us hl => match us, hl with | [_, _, _, _, _], _ => rfl) (fun vs H Q E h => ?_) (fun f cdv A outer s H vs Q E hr h => ?_)
  · obtain ⟨k, r, ss, so, nu, ro, rs, ps, is, ns, row, rfl, _⟩ := h
    rfl
  · obtain ⟨kd, r, ss, so, nu, ro, rs, ps, is, ns, row, rfl, M, tb, k⟩ := h
    have hr3 := hr.mono (show 3 ≤ 6 by decide)
    have hr4 := hr.mono (show 4 ≤ 6 by decide)
    have tk : L2.Takes (cxOf (L2.CX P w) P w K mg base ["registers", "kind", "some", "numbers", "row", "number", "sets"] "accepted" (defScope (top 88)) f cdv A outer s H E) (fun cls d _ H => E cls d H) := L2.takes_of rfl rfl rfl rfl
    have px : Passes (L2.CX P w) (cxOf (L2.CX P w) P w K mg base ["registers", "kind", "some", "numbers", "row", "number", "sets"] "accepted" (defScope (top 88)) f cdv A outer s H E) E := L2.passes_call tk (fun _ _ _ _ h => h)
    refine ⟨_, pss_cons (ps_expr (pe_fnX F1 hr3 px (pa_cons (pe_callB (cr_all rfl) (by rfl) B.all (by decide +kernel) (pa_cons (pe_lc (own := [("number", 5)]) (g := gName 5) rfl sc_acc.nd (pi_list (pv 2)) (blkOk_by (N := ["registers", "kind", "some", "numbers", "row", "number", "sets"]) (sc := defScope (top 88)) (by decide +kernel)) (fun _ _ _ _ _ => pg_name (i := 5) sc_acc.nd rfl (Or.inl rfl)) (fun _ _ _ _ _ => pts_nil) (fun _ _ _ _ _ => pe_chain op_le op_lt pe_int (pv 5) (pe_gcv rfl gG))) pa_nil)) (pa_cons (pe_gcv rfl g1) pa_nil))))
      (pss_cons (ps_expr (pe_fnX F1 hr3 px (pa_cons (pe_callB (cr_all rfl) (by rfl) B.all (by decide +kernel) (pa_cons (pe_lc (own := [("number", 5)]) (g := gName 5) rfl sc_acc.nd (pi_list (pv 3)) (blkOk_by (N := ["registers", "kind", "some", "numbers", "row", "number", "sets"]) (sc := defScope (top 88)) (by decide +kernel)) (fun _ _ _ _ _ => pg_name (i := 5) sc_acc.nd rfl (Or.inl rfl)) (fun _ _ _ _ _ => pts_nil) (fun _ _ _ _ _ => pe_chain op_le op_le pe_int (pv 5) (pe_gcv rfl gM))) pa_nil)) (pa_cons (pe_gcv rfl g1) pa_nil))))
      (pss_cons (ps_setLc (i := 6) (own := [("number", 5)]) (g := gName 5) (te := tOp (rIxL K) (tFld K (tVar 0) "sets") (tVar 5)) rfl sc_acc.nd rfl rfl rfl (pi_list (pv 2)) (blkOk_by (N := ["registers", "kind", "some", "numbers", "row", "number", "sets"]) (sc := defScope (top 88)) (by decide +kernel)) (fun _ _ _ _ _ => pg_name (i := 5) sc_acc.nd rfl (Or.inl rfl)) (fun _ _ _ _ _ => pts_nil) (fun _ _ _ _ _ => pe_ix (r := rIxL K) ix_list (ta := tFld K (tVar 0) "sets") (tb := tVar 5) (by exact pe_fld (pv 0) rfl) (pv 5) (fun _ _ => rfl)))
      (pss_cons (ps_if (PW.pt (pw_or (pt_cmp (pc_ge (pv 1) (pe_gcv rfl gF))) (pw_or1 (pt_cmpR op_in_seq (pv 1) (pe_tup (pa_cons (pe_gcv rfl gB) (pa_cons (pe_gcv rfl gS) pa_nil))) (by rfl))))) (pss_one (ps_ret (pe_fnX F2 hr px (pa_cons (pv 1) (pa_cons (pv 6) (pa_cons (pv 3) pa_nil)))))) pss_nil)
      (pss_one (ps_ret (pe_fnX F4 hr4 px (pa_cons (pv 0) (pa_cons (pe_ix ix_list (pv 2) pe_int (fun _ _ => rfl)) (pa_cons (pe_fnX F3 hr px (pa_cons (pv 1) (pa_cons (pv 6) (pa_cons (pv 3) (pa_cons (pv 4) pa_nil))))) pa_nil))))))))), ?_⟩
    obtain ⟨sp1, sp2, sp3⟩ := shp_pos M.shape
    have his := M.is_
    have hns := M.ns_
    refine ⟨_, rfl, so, rfl, ⟨_, SqL.of his⟩, fun D hD => lc_it (walk_list (K := K) (a := so) (xs := is.map V.int)) (LcP J H D (RBl fun i => (is.take i).map inG)) (LcP.startB hD tb rfl) (fun i H' _ p => SqL.of (p.kp.lst his)) (fun i x H' H2 hi p y => ?_) (fun H1 p => ?_)⟩
    · obtain ⟨rfl, hx⟩ := y
      obtain ⟨b, hb, rfl⟩ := map_get hx
      refine ⟨rfl, _, rfl, _, _, rfl, rfl, _, rfl, ?_⟩
      have hlen : ((is.take i).map inG).length ≤ 100000 := by rw [List.length_map, List.length_take]; omega
      by_cases c : 0 ≤ b
      · refine ifT (decide_eq_true c) ⟨_, _, rfl, rfl, p.appB Kp.refl ?_ hlen⟩
        rw [take_snoc hb, List.map_append]
        simp [inG, c]
      · refine ifF (decide_eq_false c) (p.appB Kp.refl ?_ hlen)
        rw [take_snoc hb, List.map_append]
        simp [inG, c]
    have hD1 := p.endB
    have k1 := p.kp
    have t1 := p.tab
    clear p
    rw [List.length_map, List.take_length] at hD1
    unfold accS at k
    refine ⟨D, _, rfl, SqL.of hD1, _, -1, rfl, t1, fun hb1 => ?_, fun hb1 => ?_⟩
    case refine_2 =>
      rw [List.all_map] at hb1
      rw [if_neg (show ¬ is.all inG = true by rw [show is.all inG = is.all (_root_.id ∘ inG) from rfl, hb1]; exact Bool.false_ne_true)] at k
      exact RefX.on k k1
    rw [List.all_map] at hb1
    have hi1 : is.all inG = true := hb1
    rw [if_pos hi1] at k
    have hns1 := k1.lst hns
    refine ⟨_, rfl, nu, rfl, ⟨_, SqL.of hns1⟩, fun D2 hD2 => lc_it (walk_list (K := K) (a := nu) (xs := ns.map V.int)) (LcP J H1 D2 (RBl fun i => (ns.take i).map inR)) (LcP.startB hD2 t1 rfl) (fun i H' _ p => SqL.of (p.kp.lst hns1)) (fun i x H' H2 hi p y => ?_) (fun H2 p => ?_)⟩
    · obtain ⟨rfl, hx⟩ := y
      obtain ⟨b, hb, rfl⟩ := map_get hx
      refine ⟨rfl, _, rfl, _, _, rfl, rfl, _, rfl, ?_⟩
      have hlen : ((ns.take i).map inR).length ≤ 100000 := by rw [List.length_map, List.length_take]; omega
      by_cases c : 0 ≤ b
      · refine ifT (decide_eq_true c) ⟨_, _, rfl, rfl, p.appB Kp.refl ?_ hlen⟩
        rw [take_snoc hb, List.map_append]
        simp [inR, c]
      · refine ifF (decide_eq_false c) (p.appB Kp.refl ?_ hlen)
        rw [take_snoc hb, List.map_append]
        simp [inR, c]
    have hD2' := p.endB
    have k2 := k1.trans p.kp
    have t2 := p.tab
    clear p
    rw [List.length_map, List.take_length] at hD2'
    refine ⟨D2, _, rfl, SqL.of hD2', _, -1, rfl, t2, fun hb2 => ?_, fun hb2 => ?_⟩
    case refine_2 =>
      rw [List.all_map] at hb2
      rw [if_neg (show ¬ ns.all inR = true by rw [show ns.all inR = ns.all (_root_.id ∘ inR) from rfl, hb2]; exact Bool.false_ne_true)] at k
      exact RefX.on k k2
    rw [List.all_map] at hb2
    have hn1 : ns.all inR = true := hb2
    rw [if_pos hn1] at k
    have his2 := k2.lst his
    obtain ⟨⟨dx, hr1⟩, hss⟩ := M.reg.on k2
    have hsets2 := k2.sets M.sets
    have plen : ps.length = 8 := by rw [← paired_len M.sets]; exact M.eight
    refine ⟨_, rfl, so, rfl, ⟨_, SqL.of his2⟩, fun D3 hD3 => lc_it (walk_list (K := K) (a := so) (xs := is.map V.int)) (LcP J H2 D3 (fun i acc H' => ∃ qa : List Addr, acc = qa.map V.ref ∧ Sets H' qa ((is.take i).map fun j => ps.getD j.toNat []) ∧ ∀ x ∈ qa, x ∈ rs)) (LcP.start hD3 t2 ⟨[], rfl, .nil, fun x h => by simp at h⟩) (fun i H' _ p => SqL.of (p.kp.lst his2)) (fun i x H' H4 hi p y => ?_) (fun H3 p => ?_)⟩
    · obtain ⟨rfl, hx⟩ := y
      obtain ⟨b, hb, rfl⟩ := map_get hx
      obtain ⟨acc, h1, qa, rfl, hqa, hin⟩ := p.at_
      have hbg := List.all_eq_true.mp hi1 b (List.mem_of_getElem? hb)
      unfold inG at hbg
      rw [Bool.and_eq_true] at hbg
      have hb0 := of_decide_eq_true hbg.1
      have hb8 := of_decide_eq_true hbg.2
      have hbn : b.toNat < rs.length := by rw [M.eight]; omega
      obtain ⟨a, ea⟩ : ∃ a, rs[b.toNat]? = some a := ⟨rs[b.toNat], List.getElem?_eq_getElem hbn⟩
      obtain ⟨q, hq, hqa2⟩ := paired_get hsets2 ea
      have h4 := p.kp.lst hqa2
      have hreg4 : H4 r = some (.ins C dx [("sets", .ref ss)]) := p.kp.ext _ _ hr1 fun ps z => by cases z
      have hss4 := p.kp.lst hss
      refine ⟨rfl, _, rfl, r, C, dx, _, V.ref ss, rfl, hreg4, R.cl, R.nS, rfl, _, rfl, ss, _, b, V.ref a, rfl, rfl, SqL.of hss4, ?_, p.app Kp.refl h1 ?_ ⟨qa ++ [a], by rw [List.map_append]; rfl, ?_, ?_⟩⟩
      · have : b = ((b.toNat : Nat) : Int) := by omega
        rw [this]
        exact atI_nat (by rw [List.getElem?_map, ea]; rfl)
      · rw [List.length_map, paired_len hqa, List.length_map, List.length_take]
        exact small (by omega)
      · rw [take_snoc hb, List.map_append]
        have hne : ∀ {z : Addr} {l : List Int}, H4 z = some (.lst (l.map V.int)) → z ∈ rs → z ≠ D3 := fun {z l} e hz => by
          obtain ⟨j, hj⟩ := List.mem_iff_getElem?.mp hz
          obtain ⟨q', _, hq'⟩ := paired_get hsets2 hj
          exact ne_of_none hq' hD3
        refine paired_app ?_ (.cons ?_ .nil)
        · have : ∀ {us : List Addr} {ls : List (List Nat)}, Sets H4 us ls → (∀ x ∈ us, x ∈ rs) → Sets (upd H4 D3 (.lst (qa.map V.ref ++ [V.ref a]))) us ls := fun {us ls} hs hin => by
            induction hs with
            | nil => exact .nil
            | cons h1 h2 ih =>
              refine .cons ?_ (ih fun x hx => hin x (by simp [hx]))
              rw [IL, upd_ne (hne h1 (hin _ (by simp)))]
              exact h1
          exact this hqa hin
        · rw [IL, upd_ne (hne h4 (List.mem_of_getElem? ea))]
          show H4 a = some (.lst ((up (ps.getD b.toNat [])).map V.int))
          rw [show ps.getD b.toNat [] = q by rw [List.getD_eq_getElem?_getD, hq]; rfl]
          exact h4
      · intro x hx
        rcases List.mem_append.mp hx with hx | hx
        · exact hin x hx
        · simp at hx
          rw [hx]
          exact List.mem_of_getElem? ea
    obtain ⟨acc, hD3', qa, rfl, hqa, -⟩ := p.at_
    have k3 := k2.trans p.kp
    have t3 := p.tab
    clear p
    rw [List.length_map, List.take_length] at hqa
    have g3 := Gives3.on k k3
    have qoks : ∀ q ∈ (is.map fun j => ps.getD j.toNat []), OkS q := fun q hq => by
      obtain ⟨j, hj, rfl⟩ := List.mem_map.mp hq
      have hbg := List.all_eq_true.mp hi1 j hj
      unfold inG at hbg
      rw [Bool.and_eq_true] at hbg
      have hb0 := of_decide_eq_true hbg.1
      have hb8 := of_decide_eq_true hbg.2
      have : j.toNat < ps.length := by omega
      rw [List.getD_eq_getElem?_getD, List.getElem?_eq_getElem this]
      exact M.oks _ (List.getElem_mem this)
    have hsh : shp[kd]? = some ((is.map fun j => ps.getD j.toNat []).length, (ns.map Int.toNat).length) := by
      rw [List.length_map, List.length_map]
      exact M.shape
    have hn3 : IL H3 nu (up (ns.map Int.toNat)) := by
      rw [up_back hn1]
      exact k3.lst hns
    have k37 := M.k37
    -- the ask
    have ask : isAsk kd = true → (tRet (tCall (spAsked J RF) [] E (tCons (tVar 1) (tCons (tVar 6) (tCons (tVar 3) tNil))))) { nx := fun _ H' => Q .non H', rt := Q } [some (.ref r), some (.int (kd : Int)), some (.ref so), some (.ref nu), some (.ref ro), none, some (.ref D3)] H3 := fun ia => by
      unfold doS at g3
      rw [if_pos ia] at g3
      have hk : kd = 2 ∨ kd = 4 ∨ (25 ≤ kd ∧ kd < 37) := by
        unfold isAsk at ia
        simp at ia
        omega
      refine ⟨_, rfl, _, rfl, _, rfl, kd, D3, nu, _, _, rfl, hk, ⟨qa, hD3', hqa⟩, hn3, qoks, hsh, t3, ?_⟩
      cases e : askS kd (is.map fun j => ps.getD j.toNat []) (ns.map Int.toNat) with
      | ok l => rw [e] at g3; exact g3
      | no n => rw [e] at g3; exact g3
    refine ⟨_, rfl, _, _, rfl, rfl, _, rfl, ?_⟩
    by_cases c25 : 25 ≤ kd
    · refine ifT (decide_eq_true (show (25 : Int) ≤ (kd : Int) by omega)) (ifT rfl (ask (by unfold isAsk; simp [c25])))
    refine ifF (decide_eq_false (show ¬ (25 : Int) ≤ (kd : Int) by omega)) ⟨_, rfl, by decide, fun m hm => ?_⟩
    have km : Kp J H3 (upd H3 m (.tup [.int 2, .int 4])) := Kp.new hm
    refine ⟨m, _, rfl, .inr (SqT.of upd_same), rfl, rfl, _, rfl, ?_⟩
    have ei : inV (V.int (kd : Int)) [V.int 2, V.int 4] = (decide (kd = 2) || decide (kd = 4)) := by
      have e1 : eqV (V.int 2) (V.int (kd : Int)) = decide (kd = 2) := by
        show ((2 : Int) == (kd : Int)) = _
        rw [Bool.eq_iff_iff, beq_iff_eq, decide_eq_true_iff]
        omega
      have e2 : eqV (V.int 4) (V.int (kd : Int)) = decide (kd = 4) := by
        show ((4 : Int) == (kd : Int)) = _
        rw [Bool.eq_iff_iff, beq_iff_eq, decide_eq_true_iff]
        omega
      show (eqV (V.int 2) (V.int (kd : Int)) || (eqV (V.int 4) (V.int (kd : Int)) || false)) = _
      rw [e1, e2, Bool.or_false]
    have hD4 := km.lst hD3'
    have hqa4 := km.sets hqa
    have hn4 := km.lst hn3
    have t4 := km.tab t3
    have k4 := k3.trans km
    have g4 := Gives3.on g3 km
    clear ask hD3' hqa hn3 g3
    cases c24 : (decide (kd = 2) || decide (kd = 4)) with
    | true =>
      have ia : isAsk kd = true := by unfold isAsk; rw [c24]; simp
      refine ifT (ei.trans c24) ?_
      unfold doS at g4
      rw [if_pos ia] at g4
      have hk : kd = 2 ∨ kd = 4 ∨ (25 ≤ kd ∧ kd < 37) := by
        simp at c24
        omega
      refine ⟨_, rfl, _, rfl, _, rfl, kd, D3, nu, _, _, rfl, hk, ⟨qa, hD4, hqa4⟩, hn4, qoks, hsh, t4, ?_⟩
      cases e : askS kd (is.map fun j => ps.getD j.toNat []) (ns.map Int.toNat) with
      | ok l => rw [e] at g4; exact g4
      | no n => rw [e] at g4; exact g4
    | false =>
      have ia : isAsk kd = false := by unfold isAsk; rw [c24]; simp; omega
      refine ifF (ei.trans c24) ?_
      unfold doS at g4
      rw [if_neg (by rw [ia]; exact Bool.false_ne_true)] at g4
      obtain ⟨i0, ir, eis⟩ : ∃ i0 ir, is = i0 :: ir := by
        cases is with
        | nil => simp at sp1
        | cons i0 ir => exact ⟨i0, ir, rfl⟩
      have h0g := List.all_eq_true.mp hi1 i0 (by rw [eis]; simp)
      unfold inG at h0g
      rw [Bool.and_eq_true] at h0g
      have hb0 := of_decide_eq_true h0g.1
      have hb8 := of_decide_eq_true h0g.2
      have e0 : (is.getD 0 0).toNat = i0.toNat := by rw [eis]; rfl
      rw [e0] at g4
      have c2 : kd ≠ 2 ∧ kd ≠ 4 := by
        simp at c24
        exact c24
      refine ⟨_, rfl, _, rfl, so, _, 0, V.int i0, rfl, rfl, SqL.of (k4.lst his), by rw [eis]; exact atI_nat (j := 0) rfl, _, rfl, _, rfl, _, rfl, _, rfl, kd, D3, nu, ro, _, _, row, rfl, by omega, c2.1, c2.2, ⟨⟨qa, hD4, hqa4⟩, hn4, k4.lst M.rw_, qoks, hsh, M.put, M.read⟩, t4, ?_⟩
      cases e : madeS kd (is.map fun j => ps.getD j.toNat []) (ns.map Int.toNat) row with
      | no n => rw [e] at g4; exact g4
      | ok p =>
        rw [e] at g4
        simp only at g4
        intro H5 a5 k5 t5 na5 ha5
        have kk := k4.trans k5
        refine ⟨r, ss, a5, i0.toNat, rs, p, by rw [show ((i0.toNat : Nat) : Int) = i0 by omega]; rfl, M.reg.on kk, by rw [M.eight]; omega, ha5, made_inc qoks e, t5, fun n hn => ?_, fun hn => ?_⟩
        · rw [hn] at g4
          exact RefX.on g4 k5
        · rw [hn] at g4
          exact fun H6 q ks ts hs6 ha6 nq hq => g4 H6 a5 q (Ks.after k5 ks) ts hs6 na5 ha6 (nq.back k5) hq
/-! answered -/
def encS : Out3 → List Int
  | .no n => [n]
  | .tell l => up l
  | .set _ p => up [p.length]
def GivesA (J ss : Addr) (rs : List Addr) (H : Hp) (Q : VK) (o : Out3) : Prop := match o with
  | .no n => ∀ H' a, Kp J H H' → Tab J H' → NL H a → IL H' a [n] → Q (.ref a) H'
  | .tell l => ∀ H' a, Kp J H H' → Tab J H' → NL H a → IL H' a (up l) → Q (.ref a) H'
  | .set i p => ∀ H' a q, Ks J ss H H' → Tab J H' → H' ss = some (.lst ((rs.set i a).map V.ref)) → NL H a → IL H' a (up p) → NL H q → IL H' q (up [p.length]) → Q (.ref q) H'
def spAns (J C : Addr) : Sp := fun vs H Q E => ∃ (k : Nat) (r ss so nu ro : Addr) (rs : List Addr) (ps : List (List Nat)) (is ns row : List Int), vs = [.ref r, .int (k : Int), .ref so, .ref nu, .ref ro] ∧ AcArgs C H k r ss so nu ro rs ps is ns row ∧ Tab J H ∧ GivesA J ss rs H Q (accS k ps is ns row)
theorem sc_ans : FnScope ["registers", "kind", "some", "numbers", "row", "refused"] ["registers", "kind", "some", "numbers", "row"] (defScope (top 89)) := ⟨rfl, rfl, rfl, by decide +kernel, rfl, by decide +kernel, by decide +kernel⟩
theorem ok_ans (d : DefAt K "answered" (top 89)) (G : Gm K mg) (R : RfF K mg RF) (F : Fn P w K mg base (L2.CX P w) 7 "accepted" ["registers", "kind", "some", "numbers", "row"] (spAcc J RF C)) :
    Fn P w K mg base CX0 8 "answered" ["registers", "kind", "some", "numbers", "row"] (spAns J C) := by
  refine d.fn G sc_ans (fun _ _ _ _ _ _ us hl => match us, hl with | [_, _, _, _, _], _ => rfl) (fun vs H Q E h => ?_) (fun f cdv A outer s H vs Q E hr h => ?_)
  · obtain ⟨k, r, ss, so, nu, ro, rs, ps, is, ns, row, rfl, _⟩ := h
    rfl
  · obtain ⟨kd, r, ss, so, nu, ro, rs, ps, is, ns, row, rfl, M, tb, k⟩ := h
    refine ⟨_, pss_one (L2.ps_try_as (c := .ref RF) (i := 5) (Wout := fun _ _ _ _ => False) (tb := fun W' => tRet (tCallS (spAcc J RF C) (WE W') (tCons (tVar 0) (tCons (tVar 1) (tCons (tVar 2) (tCons (tVar 3) (tCons (tVar 4) tNil))))))) (ts := fun a cls d => tRet (tLst (tCons (tXf a cls d RF "number" (tVar 5)) tNil))) rfl rfl sc_ans.nd rfl rfl ⟨rfl, by decide, .inl R.g⟩ L2.takes0
      (fun W' pn xe tkN _ => pss_one (ps_ret (pe_fnS F hr (fun σ => L2.passAt tkN σ) (pa_cons (pv 0) (pa_cons (pv 1) (pa_cons (pv 2) (pa_cons (pv 3) (pa_cons (pv 4) pa_nil))))))))
      (fun a oe cls d pn hz hf => pss_one (ps_ret (pe_lst (pa_cons (pe_xf R.x R.n hz hf (pv 5)) pa_nil))))), ?_⟩
    refine ⟨_, rfl, _, rfl, _, rfl, _, rfl, _, rfl, kd, r, ss, so, nu, ro, rs, ps, is, ns, row, rfl, M, tb, ?_⟩
    cases e : accS kd ps is ns row with
    | no n =>
      rw [e] at k
      intro H' d' kp tp hd
      refine ⟨true, R.y, fun _ a ha => ⟨_, rfl, rfl, rfl, d', _, V.int n, rfl, hd, rfl, (by show 1 ≤ sizeLine; decide), fun q hq => ?_⟩, fun h => (by cases h)⟩
      exact k _ q (kp.trans (Kp.new hq)) (tab_new tp hq) ((NL.new hq).back kp) upd_same
    | tell l => rw [e] at k; exact k
    | set i p => rw [e] at k; exact k
end
end Ms
end

/-! text U10 -/
section
set_option Elab.async false
set_option linter.all false
set_option maxRecDepth 100000
set_option maxHeartbeats 4000000
namespace Ms
open PySem PySem.Spec PyProof.Rows L2 HotX
/-- the list that was handed in: frozen, or written -/
def ArgL (K : PySem.W.Frag) (H : Hp) (a : Addr) (xs : List V) : Prop := (∃ o, H a = some (.frz o (.lst xs))) ∨
  ∃ (o : Obj) (its : Array Value) (n : Nat), K.lookup a = some o ∧ o.cls = .type "list" ∧ o.dict = none ∧ o.data = .seq its n ∧ its.size ≤ sizeLine ∧ Vals xs its.toList
section
variable {K : PySem.W.Frag} {J ss a D : Addr} {H H' : Hp} {xs ys zs : List V}
theorem ArgL.sql (h : ArgL K H a xs) : SqL K H a xs := h.elim (fun ⟨o, e⟩ => .inl (.inr ⟨o, e⟩)) .inr
theorem Kp.argl (k : Kp J H H') (h : ArgL K H a xs) : ArgL K H' a xs := h.elim (fun ⟨o, e⟩ => .inl ⟨o, k.ext _ _ e fun ps z => by cases z⟩) .inr
theorem ArgL.upd (h : ArgL K H a xs) (hD : H D = some (.lst ys)) : ArgL K (upd H D (.lst zs)) a xs := h.elim (fun ⟨o, e⟩ => .inl ⟨o, by rw [upd_ne (ne_of e hD fun z => by cases z)]; exact e⟩) .inr
theorem Ks.argl (k : Ks J ss H H') (hs : H ss = some (.lst ys)) (h : ArgL K H a xs) : ArgL K H' a xs := h.elim (fun ⟨o, e⟩ => .inl ⟨o, k.ext _ _ e (ne_of e hs fun z => by cases z) fun ps z => by cases z⟩) .inr
end
section
variable {P : Program} {w : World} {K : PySem.W.Frag} {mg : Str → Option Value} {base : Heap} {J RF NT W C : Addr}
/-! row_behind -/
def spRow (K : PySem.W.Frag) (J : Addr) : Sp := fun vs H Q _ => ∃ (c : Addr) (l : List Int) (k at_ : Nat), vs = [.ref c, .int (k : Int), .int (at_ : Int)] ∧ ArgL K H c (l.map V.int) ∧ Tab J H ∧
  (k ≠ 1 → k ≠ 3 → ∀ H' t q, Kp J H H' → Tab J H' → H' t = some (.tup [.ref q, .int (at_ : Int)]) → IL H' q [] → Q (.ref t) H') ∧
  ((k = 1 ∨ k = 3) → ∃ n : Nat, l[at_]? = some (n : Int) ∧ ∀ H' t q, Kp J H H' → Tab J H' → H' t = some (.tup [.ref q, .int ((at_ + 1 + n : Nat) : Int)]) → IL H' q ((l.drop (at_ + 1)).take n) → Q (.ref t) H')
theorem sc_row : FnScope ["calls", "kind", "at", "end"] ["calls", "kind", "at"] (defScope (top 90)) := ⟨rfl, rfl, rfl, by decide +kernel, rfl, by decide +kernel, by decide +kernel⟩
theorem ok_row (d : DefAt K "row_behind" (top 90)) (G : Gm K mg) (gP : GC mg "PUT" (.int 1)) (gR : GC mg "READ" (.int 3)) : Fn P w K mg base CX0 1 "row_behind" ["calls", "kind", "at"] (spRow K J) := by
  refine d.fn G sc_row (fun _ _ _ _ _ _ us hl => match us, hl with | [_, _, _], _ => rfl) (fun vs H Q E h => ?_) (fun f cdv A outer s H vs Q E hr h => ?_)
  · obtain ⟨c, l, k, at_, rfl, _⟩ := h
    rfl
  · obtain ⟨c0, l, kd, at_, rfl, hc, tb, k1, k2⟩ := h
    refine ⟨_, pss_cons (ps_if (pt_cmpR op_notIn_seq (pv 1) (pe_tup (pa_cons (pe_gcv rfl gP) (pa_cons (pe_gcv rfl gR) pa_nil))) (by rfl)) (pss_one (ps_ret (pe_tup (pa_cons (pe_lst pa_nil) (pa_cons (pv 2) pa_nil))))) pss_nil)
      (pss_cons (ps_set (i := 3) sc_row.nd rfl (Or.inl rfl) (pe_op op_add (pe_op op_add (pv 2) pe_int) (pe_ix ix_list (pv 0) (pv 2) (fun _ _ => rfl))))
      (pss_one (ps_ret (pe_tup (pa_cons (pe_slice sl_list (pv 0) (po_some (pe_op op_add (pv 2) pe_int)) (po_some (pv 3))) (pa_cons (pv 3) pa_nil)))))), ?_⟩
    have s2 : 2 ≤ sizeLine := by decide
    refine ⟨_, rfl, by decide, fun m hm => ?_⟩
    have km : Kp J H (upd H m (.tup [.int 1, .int 3])) := Kp.new hm
    refine ⟨m, _, rfl, .inr (SqT.of upd_same), rfl, rfl, _, rfl, ?_⟩
    have ei : inV (V.int (kd : Int)) [V.int 1, V.int 3] = (decide (kd = 1) || decide (kd = 3)) := by
      have e1 : eqV (V.int 1) (V.int (kd : Int)) = decide (kd = 1) := by
        show ((1 : Int) == (kd : Int)) = _
        rw [Bool.eq_iff_iff, beq_iff_eq, decide_eq_true_iff]
        omega
      have e2 : eqV (V.int 3) (V.int (kd : Int)) = decide (kd = 3) := by
        show ((3 : Int) == (kd : Int)) = _
        rw [Bool.eq_iff_iff, beq_iff_eq, decide_eq_true_iff]
        omega
      show (eqV (V.int 1) (V.int (kd : Int)) || (eqV (V.int 3) (V.int (kd : Int)) || false)) = _
      rw [e1, e2, Bool.or_false]
    by_cases c : kd = 1 ∨ kd = 3
    · obtain ⟨n, hn, k2⟩ := k2 c
      refine ifF (by show (!inV (V.int (kd : Int)) [V.int 1, V.int 3]) = false; rw [ei]; simp; omega) ?_
      have hcm := km.argl hc
      refine ⟨_, rfl, _, _, rfl, rfl, _, rfl, _, rfl, c0, _, (at_ : Int), V.int n, rfl, rfl, hcm.sql, atI_nat (by rw [List.getElem?_map, hn]; rfl), _, _, rfl, rfl, ?_⟩
      refine ⟨_, rfl, _, rfl, _, _, rfl, rfl, _, rfl, _, rfl, _, rfl, c0, _, rfl, hcm.sql, fun q hq => ⟨_, rfl, s2, fun t ht => ?_⟩⟩
      have e1 : ((at_ : Int) + 1) = ((at_ + 1 : Nat) : Int) := by omega
      have e2 : ((at_ : Int) + 1 + (n : Int)) = ((at_ + 1 + n : Nat) : Int) := by omega
      have ec : cutV (l.map V.int) (some ((at_ : Int) + 1)) (some ((at_ : Int) + 1 + (n : Int))) = ((l.drop (at_ + 1)).take n).map V.int := by
        rw [e2, e1, cut_to, List.map_take, List.map_drop]
        congr 1
        omega
      have kq : Kp J _ (upd (upd H m (.tup [.int 1, .int 3])) q (.lst (cutV (l.map V.int) (some ((at_ : Int) + 1)) (some ((at_ : Int) + 1 + (n : Int)))))) := Kp.new hq
      have kt : Kp J _ (upd (upd (upd H m (.tup [.int 1, .int 3])) q (.lst (cutV (l.map V.int) (some ((at_ : Int) + 1)) (some ((at_ : Int) + 1 + (n : Int)))))) t (.tup [.ref q, .int ((at_ : Int) + 1 + (n : Int))])) := Kp.new ht
      have kk := km.trans (kq.trans kt)
      refine k2 _ t q kk (kk.tab tb) ?_ ?_
      · rw [upd_same]
        show some (HO.tup [V.ref q, V.int ((at_ : Int) + 1 + (n : Int))]) = _
        rw [e2]
      · exact (kt.lst upd_same).trans (by rw [ec])
    · refine ifT (by show (!inV (V.int (kd : Int)) [V.int 1, V.int 3]) = true; rw [ei]; simp; omega) ⟨by decide, fun q hq => ⟨_, rfl, s2, fun t ht => ?_⟩⟩
      have kq : Kp J _ (upd (upd H m (.tup [.int 1, .int 3])) q (.lst [])) := Kp.new hq
      have kt : Kp J _ (upd (upd (upd H m (.tup [.int 1, .int 3])) q (.lst [])) t (.tup [.ref q, .int (at_ : Int)])) := Kp.new ht
      have kk := km.trans (kq.trans kt)
      exact k1 (fun z => c (.inl z)) (fun z => c (.inr z)) _ t q kk (kk.tab tb) upd_same (kt.lst upd_same)
end
end Ms
end

/-! text U11 -/
section
set_option Elab.async false
set_option linter.all false
set_option maxRecDepth 100000
set_option maxHeartbeats 4000000
namespace Ms
open PySem PySem.Spec PyProof.Rows L2 HotX
section
variable {P : Program} {w : World} {K : PySem.W.Frag} {mg : Str → Option Value} {base : Heap} {J RF NT W C : Addr}
/-! Registers.__init__ -/
def spGI (J C : Addr) : Sp := fun vs H Q _ => ∃ (p dx : Addr), vs = [.ref p] ∧ H p = some (.ins C dx []) ∧ Tab J H ∧
  ∀ H' ss rs, H' p = some (.ins C dx [("sets", .ref ss)]) → H' ss = some (.lst (rs.map V.ref)) → rs.length = 8 → Sets H' rs (List.replicate 8 []) → (∀ b o, H b = some o → b ≠ p → (∀ ps, o ≠ .tbl ps) → H' b = some o) → Tab J H' → Q .non H'
theorem sc_gi : FnScope ["self", "turn"] ["self"] (defScope sGI) := ⟨rfl, rfl, rfl, by decide +kernel, rfl, by decide +kernel, by decide +kernel⟩
theorem tab_ins {J a C dx : Addr} {H : Hp} {fs gs : List (Str × V)} (t : Tab J H) (ha : H a = some (.ins C dx fs)) : Tab J (upd H a (.ins C dx gs)) := by
  obtain ⟨ps, h1, h2, h3⟩ := t
  have ne : ∀ {b : Addr} {o : HO}, H b = some o → (∀ C dx fs, o ≠ .ins C dx fs) → b ≠ a := fun {b o} e n z => by
    rw [z, ha] at e
    exact n _ _ _ (Option.some.inj e).symm
  refine ⟨ps, by rw [upd_ne (ne h1 fun _ _ _ z => by cases z)]; exact h1, h2, fun pos cv hc => ?_⟩
  obtain ⟨c, e1, e2⟩ := h3 pos cv hc
  exact ⟨c, e1, by rw [upd_ne (ne e2 fun _ _ _ z => by unfold LamX.CodeO at z; cases z)]; exact e2⟩
theorem ok_gi {fI : Addr} {fd : FuncData} (F : Fun K "__init__" "Registers.__init__" sGI fI fd) (R : RgF K mg C) (B : Bi mg) (gG : GC mg "REGISTERS" (.int 8)) : FnOk P w K mg base CX0 1 fI fd ["self"] (spGI J C) := by
  refine F.ok sc_gi (fun vs H Q E h => ?_) (fun cdv A outer s H vs Q E hr h => ?_)
  · obtain ⟨p, dx, rfl, _⟩ := h
    rfl
  · obtain ⟨p, dx, rfl, hp, tb, k⟩ := h
    refine ⟨_, pss_one (ps_fld (pv 0) (pe_lc (own := [("turn", 1)]) (g := gName 1) rfl sc_gi.nd (pi_range1 (by rfl) B.range (pa_cons (pe_gcv rfl gG) pa_nil)) (blkOk_by (N := ["self", "turn"]) (sc := defScope sGI) (by decide +kernel)) (fun _ _ _ _ _ => pg_name (i := 1) sc_gi.nd rfl (Or.inl rfl)) (fun _ _ _ _ _ => pts_nil) (fun _ _ _ _ _ => pe_lst pa_nil)) rfl), ?_⟩
    refine ⟨8, rfl, by omega, by omega, fun D hD => lc_it (walk_range (lo := 0) (n := (8 : Int).toNat)) (LcP J H D (fun i acc H' => ∃ qa : List Addr, acc = qa.map V.ref ∧ qa.length = i ∧ Sets H' qa (List.replicate i []) ∧ ∀ x ∈ qa, x ≠ D)) (LcP.start hD tb ⟨[], rfl, rfl, .nil, fun x h => by simp at h⟩) (fun i H' _ p => trivial) (fun i x H' H2 hi q y => ?_) (fun H' q => ?_)⟩
    · obtain ⟨rfl, rfl⟩ := y
      obtain ⟨acc, h1, qa, rfl, hl, hqa, hne⟩ := q.at_
      refine ⟨rfl, by decide, fun m hm => ?_⟩
      have km : Kp J H2 (upd H2 m (.lst [])) := Kp.new hm
      have nm : m ≠ D := fun z => by rw [z, h1] at hm; cases hm
      refine q.app km h1 ?_ ⟨qa ++ [m], by rw [List.map_append]; rfl, by simp [hl], ?_, ?_⟩
      · rw [List.length_map]
        exact small (by have : i < 8 := hi; omega)
      · rw [List.replicate_succ']
        refine paired_app ?_ (.cons ?_ .nil)
        · have : ∀ {us : List Addr} {ls : List (List Nat)}, Sets (upd H2 m (.lst [])) us ls → (∀ x ∈ us, x ≠ D) → Sets (upd (upd H2 m (.lst [])) D (.lst (qa.map V.ref ++ [V.ref m]))) us ls := fun {us ls} hs hin => by
            induction hs with
            | nil => exact .nil
            | cons h1 h2 ih =>
              refine .cons ?_ (ih fun x hx => hin x (by simp [hx]))
              rw [IL, upd_ne (hin _ (by simp))]
              exact h1
          exact this (km.sets hqa) hne
        · rw [IL, upd_ne nm, upd_same]
          rfl
      · intro x hx
        rcases List.mem_append.mp hx with hx | hx
        · exact hne x hx
        · simp at hx
          rw [hx]
          exact nm
    · obtain ⟨acc, h1, qa, rfl, hl, hqa, hne⟩ := q.at_
      have hl8 : qa.length = 8 := hl
      have hp' : H' p = some (.ins C dx []) := q.kp.ext _ _ hp fun ps z => by cases z
      refine ⟨_, rfl, p, C, dx, [], rfl, hp', R.cl, R.nS, by decide, k _ D qa ?_ ?_ hl8 ?_ ?_ (tab_ins q.tab hp')⟩
      · rw [upd_same]
        rfl
      · rw [upd_ne (ne_of h1 hp' fun z => by cases z)]
        exact h1
      · have : ∀ {us : List Addr} {ls : List (List Nat)}, Sets H' us ls → Sets (upd H' p (.ins C dx (putF "sets" (.ref D) []))) us ls := fun {us ls} hs => by
          induction hs with
          | nil => exact .nil
          | cons h1 h2 ih =>
            refine .cons ?_ ih
            rw [IL, upd_ne (ne_of h1 hp' fun z => by cases z)]
            exact h1
        exact this hqa
      · intro b o e nb nt
        rw [upd_ne nb]
        exact q.kp.ext b o e nt
end
end Ms
end

/-! text U12 -/
section
set_option Elab.async false
set_option linter.all false
set_option maxRecDepth 100000
set_option maxHeartbeats 4000000
namespace Ms
open PySem PySem.Spec PyProof.Rows L2 HotX
def appS (ps : List (List Nat)) : Out3 → List (List Nat)
  | .set i p => ps.set i p
  | _ => ps
def RowAt (l : List Int) (k a : Nat) (row : List Int) (a' : Nat) : Prop := ((k ≠ 1 ∧ k ≠ 3) ∧ row = [] ∧ a' = a) ∨ ((k = 1 ∨ k = 3) ∧ ∃ n : Nat, l[a]? = some (n : Int) ∧ a + 1 + n ≤ l.length ∧ row = (l.drop (a + 1)).take n ∧ a' = a + 1 + n)
/-- the calls from a place on, and what they answer -/
inductive Run (l : List Int) : Nat → List (List Nat) → List Int → Prop
  | done {ps : List (List Nat)} : Run l l.length ps []
  | step {at_ k m f at2 : Nat} {ps : List (List Nat)} {row ts : List Int} (hk : l[at_]? = some (k : Int)) (h37 : k < 37) (hs : shp[k]? = some (m, f)) (hl : at_ + 1 + m + f ≤ l.length) (hrow : RowAt l k (at_ + 1 + m + f) row at2) (hput : row.length ≤ 2500) (hread : k = 3 → ∀ n ∈ row, 0 ≤ n ∧ n < 256)
      (rest : Run l at2 (appS ps (accS k ps ((l.drop (at_ + 1)).take m) ((l.drop (at_ + 1 + m)).take f) row)) ts) :
      Run l at_ ps (((encS (accS k ps ((l.drop (at_ + 1)).take m) ((l.drop (at_ + 1 + m)).take f) row)).length : Int) :: (encS (accS k ps ((l.drop (at_ + 1)).take m) ((l.drop (at_ + 1 + m)).take f) row) ++ ts))
theorem acc_set {k : Nat} {ps : List (List Nat)} {is ns row : List Int} {i : Nat} {p : List Nat} (hq : ∀ q ∈ ps, OkS q) (h : accS k ps is ns row = .set i p) : OkS p := by
  unfold accS at h
  split at h
  · split at h
    · unfold doS at h
      split at h
      · split at h <;> cases h
      · split at h
        · cases h
        · next e =>
          split at h
          · cases h
          · next e2 =>
            cases h
            have hqs : ∀ q ∈ (is.map fun i => ps.getD i.toNat []), OkS q := fun q hq2 => by
              obtain ⟨j, _, rfl⟩ := List.mem_map.mp hq2
              rw [List.getD_eq_getElem?_getD]
              cases e3 : ps[j.toNat]? with
              | none => exact ⟨List.Pairwise.nil, fun b hb => by simp at hb, by simp⟩
              | some q => exact hq q (List.mem_of_getElem? e3)
            have hi := made_inc hqs e
            unfold putS at e2
            split at e2
            · cases e2
            · next h1 =>
              split at e2
              · cases e2
              · next h2 =>
                refine ⟨hi, fun b hb => ?_, ?_⟩
                · exact Nat.le_of_not_lt fun z => h1 (List.any_eq_true.mpr ⟨b, hb, decide_eq_true z⟩)
                · unfold Vabita.MOST at h2
                  omega
    · cases h
  · cases h
theorem app_ok {k : Nat} {ps : List (List Nat)} {is ns row : List Int} (hq : ∀ q ∈ ps, OkS q) : ∀ q ∈ appS ps (accS k ps is ns row), OkS q := by
  cases e : accS k ps is ns row with
  | no n => exact hq
  | tell l => exact hq
  | set i p =>
    intro q hq2
    rcases List.mem_or_eq_of_mem_set hq2 with h | h
    · exact hq q h
    · rw [h]
      exact acc_set hq e
theorem paired_set {α β : Type} {R : α → β → Prop} : ∀ {l : List α} {r : List β} {i : Nat} {a : α} {b : β}, Paired R l r → R a b → Paired R (l.set i a) (r.set i b)
  | _, _, _, _, _, .nil, _ => .nil
  | _, _, 0, _, _, .cons x y, h => .cons h y
  | _, _, i + 1, _, _, .cons x y, h => .cons x (paired_set y h)
/-- one way on for all answers -/
theorem givesA_of {J ss : Addr} {rs : List Addr} {ps : List (List Nat)} {H : Hp} {Q : VK} {o : Out3} (hs : H ss = some (.lst (rs.map V.ref))) (hr : rs.length = 8) (hS : Sets H rs ps)
    (k : ∀ H' q rs', Ks J ss H H' → Tab J H' → H' ss = some (.lst (rs'.map V.ref)) → rs'.length = 8 → Sets H' rs' (appS ps o) → (∀ x ∈ rs', x ∈ rs ∨ NL H x) → NL H q → IL H' q (encS o) → Q (.ref q) H') : GivesA J ss rs H Q o := by
  have rne : rs ≠ [] := fun z => by rw [z] at hr; cases hr
  cases o with
  | no n => exact fun H' a kp tp na ha => k H' a rs (Ks.of kp) tp (kp.lst hs) hr (kp.sets hS) (fun x h => .inl h) na ha
  | tell l => exact fun H' a kp tp na ha => k H' a rs (Ks.of kp) tp (kp.lst hs) hr (kp.sets hS) (fun x h => .inl h) na ha
  | set i p =>
    intro H' a q ks tp hs' na ha nq hq
    have old : ∀ {us : List Addr} {ls : List (List Nat)}, Sets H us ls → Sets H' us ls := fun {us ls} h => by
      induction h with
      | nil => exact .nil
      | cons h1 h2 ih => exact .cons (ks.lst h1 (set_ne hs rne h1)) ih
    refine k H' q (rs.set i a) ks tp hs' (by rw [List.length_set]; exact hr) (paired_set (old hS) ha) (fun x hx => ?_) nq hq
    rcases List.mem_or_eq_of_mem_set hx with h | h
    · exact .inl h
    · exact .inr (by rw [h]; exact na)
/-- SHAPES -/
def GS (K : PySem.W.Frag) (mg : Str → Option Value) : Prop := ∃ (SH : Addr) (as : List Addr), GC mg "SHAPES" (.ref SH) ∧ (∀ H, SqT K H SH (as.map V.ref)) ∧ Paired (fun a (x : Nat × Nat) => ∀ H, SqT K H a [.int (x.1 : Int), .int (x.2 : Int)]) as shp
section
variable {P : Program} {w : World} {K : PySem.W.Frag} {mg : Str → Option Value} {base : Heap} {J RF NT W C : Addr}
/-! answers -/
def spAll (K : PySem.W.Frag) (J : Addr) : Sp := fun vs H Q _ => ∃ (c : Addr) (l T : List Int), vs = [.ref c] ∧ ArgL K H c (l.map V.int) ∧ Tab J H ∧ Run l 0 (List.replicate 8 []) T ∧ T.length ≤ 10000000 ∧ l.length ≤ 10000000 ∧ ∀ H' p, IL H' p T → Q (.ref p) H'
theorem sc_all : FnScope ["calls", "registers", "told", "at", "kind", "many", "further", "numbers", "row", "behind", "answer"] ["calls"] (defScope (top 91)) := ⟨rfl, rfl, rfl, by decide +kernel, rfl, by decide +kernel, by decide +kernel⟩
structure AlP (K : PySem.W.Frag) (J C c r ss to : Addr) (l T : List Int) (m : Nat) (σ : L2.St) (H : Hp) : Prop where
  ex : ∃ (at_ : Nat) (v4 v5 v6 v7 v8 v9 v10 : Option V) (rs : List Addr) (ps : List (List Nat)) (told ts : List Int), m = l.length - at_ ∧ at_ ≤ l.length ∧ σ = [some (.ref c), some (.ref r), some (.ref to), some (.int (at_ : Int)), v4, v5, v6, v7, v8, v9, v10] ∧
    ArgL K H c (l.map V.int) ∧ Tab J H ∧ RegAt C r ss H rs ∧ Sets H rs ps ∧ rs.length = 8 ∧ (∀ p ∈ ps, OkS p) ∧ IL H to told ∧ to ∉ rs ∧ Run l at_ ps ts ∧ T = told ++ ts
theorem run_le {l : List Int} {a : Nat} {ps : List (List Nat)} {ts : List Int} (h : Run l a ps ts) : a ≤ l.length := by
  cases h with
  | done => exact Nat.le_refl _
  | step hk h37 hs hl hrow => omega
theorem ok_all {fa : Addr} {fda : FuncData} (d : Fun K "answers" "answers" (top 91) fa fda) (B : Bi mg) (R : RgF K mg C) (gG : GC mg "REGISTERS" (.int 8)) (gS : GS K mg) (F1 : Fn P w K mg base CX0 1 "row_behind" ["calls", "kind", "at"] (spRow K J)) (F2 : Fn P w K mg base CX0 8 "answered" ["registers", "kind", "some", "numbers", "row"] (spAns J C)) :
    FnOk P w K mg base CX0 9 fa fda ["calls"] (spAll K J) := by
  obtain ⟨SH, as, gSH, sSH, pSH⟩ := gS
  obtain ⟨fI, fd, mI, FI⟩ := R.i
  have bI : Binds K fd ["self"] [] := FI.binds fun _ _ _ _ _ _ us hl => match us, hl with | [_], _ => rfl
  refine d.ok sc_all (fun vs H Q E h => ?_) (fun cdv A outer s H vs Q E hr h => ?_)
  · obtain ⟨c, l, T, rfl, _⟩ := h
    rfl
  · obtain ⟨c, l, T, rfl, hc, tb, run, hT, hll, k⟩ := h
    have hr1 := hr.mono (show 1 ≤ 8 by decide)
    have hr2 := hr.mono (show 2 ≤ 8 by decide)
    refine ⟨_, pss_cons (ps_set (i := 1) sc_all.nd rfl (Or.inl rfl) (pe_make0 (E := E0) mI (ok_gi (J := J) FI R B gG) hr2 rfl R.g bI .nil pass0))
      (pss_cons (ps_set (i := 2) sc_all.nd rfl (Or.inl rfl) (pe_lst pa_nil))
      (pss_cons (ps_set (i := 3) sc_all.nd rfl (Or.inl rfl) pe_int)
      (pss_cons (ps_while PassesOwn.never (pt_cmp (pc_lt (pv 3) (pe_callB call_len_seq (by rfl) B.len PySem.boot_len (pa_cons (pv 0) pa_nil))))
        (pss_cons (ps_set (i := 4) sc_all.nd rfl (Or.inl rfl) (pe_ix ix_list (pv 0) (pv 3) (fun _ _ => rfl)))
        (pss_cons (ps_asg (pe_ix ix_tup (pe_gcv rfl gSH) (pv 4) (fun _ _ => rfl)) (pg_tup rfl (pgs_cons (pg_name (i := 5) sc_all.nd rfl (Or.inl rfl)) (pgs_cons (pg_name (i := 6) sc_all.nd rfl (Or.inl rfl)) pgs_nil))))
        (pss_cons (ps_set (i := 7) sc_all.nd rfl (Or.inl rfl) (pe_slice sl_list (pv 0) (po_some (pe_op op_add (pe_op op_add (pv 3) pe_int) (pv 5))) (po_some (pe_op op_add (pe_op op_add (pe_op op_add (pv 3) pe_int) (pv 5)) (pv 6)))))
        (pss_cons (ps_asg (pe_fn F1 hr1 (pa_cons (pv 0) (pa_cons (pv 4) (pa_cons (pe_op op_add (pe_op op_add (pe_op op_add (pv 3) pe_int) (pv 5)) (pv 6)) pa_nil)))) (pg_tup rfl (pgs_cons (pg_name (i := 8) sc_all.nd rfl (Or.inl rfl)) (pgs_cons (pg_name (i := 9) sc_all.nd rfl (Or.inl rfl)) pgs_nil))))
        (pss_cons (ps_set (i := 10) sc_all.nd rfl (Or.inl rfl) (pe_fn F2 hr (pa_cons (pv 1) (pa_cons (pv 4) (pa_cons (pe_slice sl_list (pv 0) (po_some (pe_op op_add (pv 3) pe_int)) (po_some (pe_op op_add (pe_op op_add (pv 3) pe_int) (pv 5)))) (pa_cons (pv 7) (pa_cons (pv 8) pa_nil)))))))
        (pss_cons (ps_expr (pe_bm PySem.F.plainAttrs_list PySem.F.slot_list_append PySem.F.type_list_append mt_append (pv 2) (pa_cons (pe_callB call_len_seq (by rfl) B.len PySem.boot_len (pa_cons (pv 10) pa_nil)) pa_nil)))
        (pss_cons (ps_expr (pe_bm PySem.F.plainAttrs_list PySem.F.slot_list_extend PySem.F.type_list_extend mt_extend (pv 2) (pa_cons (pv 10) pa_nil)))
        (pss_one (ps_set (i := 3) sc_all.nd rfl (Or.inl rfl) (pv 9)))))))))))
      (pss_one (ps_ret (pv 2)))))), ?_⟩
    intro r dx nr nd nne
    have tb0 : Tab J (upd (upd H dx (.own r)) r (.ins C dx [])) := tab_new (tab_new tb nd) (by rw [upd_ne (Ne.symm nne)]; exact nr)
    refine ⟨r, dx, rfl, upd_same, tb0, fun H1 ss rs hr1' hss1 h8 hS1 keep tb1 => ⟨rfl, ?_⟩⟩
    have keep1 : ∀ b o, H b = some o → (∀ ps, o ≠ .tbl ps) → H1 b = some o := fun b o e n => keep b o (by rw [upd_ne (ne_of_none e nr), upd_ne (ne_of_none e nd)]; exact e) (ne_of_none e nr) n
    have hc1 : ArgL K H1 c (l.map V.int) := hc.elim (fun ⟨o, e⟩ => .inl ⟨o, keep1 _ _ e fun ps z => by cases z⟩) .inr
    refine ⟨by decide, fun to hto => ?_⟩
    have k2 : Kp J H1 (upd H1 to (.lst [])) := Kp.new hto
    refine ⟨AlP K J C c r ss to l T, ⟨l.length - 0, ⟨0, none, none, none, none, none, none, none, rs, List.replicate 8 [], [], T, rfl, Nat.zero_le _, rfl, k2.argl hc1, k2.tab tb1, RegAt.on (J := J) ⟨⟨dx, hr1'⟩, hss1⟩ k2, k2.sets hS1, h8, ?_, upd_same, ?_, run, rfl⟩⟩, fun m σ H2 pv => ?_⟩
    · intro p hp
      rw [List.eq_of_mem_replicate hp]
      exact ⟨List.Pairwise.nil, fun b hb => by simp at hb, by simp⟩
    · intro hin
      obtain ⟨j, hj⟩ := List.mem_iff_getElem?.mp hin
      obtain ⟨q, _, hq⟩ := paired_get hS1 hj
      rw [IL, hto] at hq
      cases hq
    clear hc tb run keep keep1 hc1 k2 tb0 tb1 hS1 h8 hr1' hss1 nr nd nne hto
    obtain ⟨at_, v4, v5, v6, v7, v8, v9, v10, rs, ps, told, ts, rfl, hat, rfl, hc, tb, hreg, hS, h8, oks, hto, tn, run, eT⟩ := pv.ex
    clear pv
    refine ⟨_, rfl, _, rfl, c, _, rfl, .inl hc.sql, _, _, rfl, rfl, _, rfl, ?_⟩
    by_cases hlt : at_ < l.length
    case neg =>
      refine ifF (decide_eq_false (by rw [List.length_map]; omega)) ?_
      cases run with
      | done =>
        rw [List.append_nil] at eT
        refine ⟨_, rfl, k _ to ?_⟩
        rw [eT]
        exact hto
      | step hk h37 hs hl => exact absurd (Nat.lt_of_lt_of_le (by omega) hl) hlt
    refine ifT (decide_eq_true (by rw [List.length_map]; omega)) ⟨fun σ' H' => ∃ m', m' < l.length - at_ ∧ AlP K J C c r ss to l T m' σ' H', fun _ _ h => h, ?_⟩
    cases run with
    | done => exact absurd hlt (Nat.lt_irrefl _)
    | @step _ kd mm ff at2 _ row ts' hk h37 hs hl hrow hput hread rest =>
    generalize hout : accS kd ps ((l.drop (at_ + 1)).take mm) ((l.drop (at_ + 1 + mm)).take ff) row = out at rest eT
    obtain ⟨⟨dx2, hr1⟩, hss⟩ := hreg
    have rne : rs ≠ [] := fun z => by rw [z] at h8; cases h8
    obtain ⟨sa, esa⟩ : ∃ sa, as[kd]? = some sa := by
      have hl2 := paired_len pSH
      have : kd < as.length := by rw [hl2]; exact h37
      exact ⟨as[kd], List.getElem?_eq_getElem this⟩
    obtain ⟨x2, ex2, hx2⟩ := paired_get pSH esa
    rw [hs] at ex2
    cases ex2
    refine ⟨_, rfl, _, rfl, c, _, (at_ : Int), V.int kd, rfl, rfl, hc.sql, atI_nat (by rw [List.getElem?_map, hk]; rfl), ?_⟩
    refine ⟨_, rfl, SH, _, (kd : Int), V.ref sa, rfl, rfl, sSH _, atI_nat (by rw [List.getElem?_map, esa]; rfl), sa, _, rfl, hx2 _, rfl, _, _, rfl, _, _, rfl, rfl, ?_⟩
    refine ⟨_, rfl, _, rfl, _, _, rfl, rfl, _, rfl, _, _, rfl, rfl, _, rfl, _, rfl, _, _, rfl, rfl, _, rfl, _, _, rfl, rfl, _, rfl, _, _, rfl, rfl, _, rfl, c, _, rfl, hc.sql, fun q hq => ?_⟩
    have e1 : ((at_ : Int) + 1) = ((at_ + 1 : Nat) : Int) := by omega
    have e2 : ((at_ : Int) + 1 + (mm : Int)) = ((at_ + 1 + mm : Nat) : Int) := by omega
    have e3 : ((at_ : Int) + 1 + (mm : Int) + (ff : Int)) = ((at_ + 1 + mm + ff : Nat) : Int) := by omega
    have ec : cutV (l.map V.int) (some ((at_ : Int) + 1 + (mm : Int))) (some ((at_ : Int) + 1 + (mm : Int) + (ff : Int))) = ((l.drop (at_ + 1 + mm)).take ff).map V.int := by
      rw [e3, e2, cut_to, List.map_take, List.map_drop]
      congr 1
      omega
    have ec2 : cutV (l.map V.int) (some ((at_ : Int) + 1)) (some ((at_ : Int) + 1 + (mm : Int))) = ((l.drop (at_ + 1)).take mm).map V.int := by
      rw [e2, e1, cut_to, List.map_take, List.map_drop]
      congr 1
      omega
    have kq : Kp J H2 (upd H2 q (.lst (cutV (l.map V.int) (some ((at_ : Int) + 1 + (mm : Int))) (some ((at_ : Int) + 1 + (mm : Int) + (ff : Int)))))) := Kp.new hq
    have hq3 : IL (upd H2 q (.lst (cutV (l.map V.int) (some ((at_ : Int) + 1 + (mm : Int))) (some ((at_ : Int) + 1 + (mm : Int) + (ff : Int)))))) q ((l.drop (at_ + 1 + mm)).take ff) := upd_same.trans (by rw [ec])
    refine ⟨_, rfl, _, rfl, _, rfl, _, _, rfl, rfl, _, rfl, _, _, rfl, rfl, _, rfl, _, _, rfl, rfl, c, l, kd, at_ + 1 + mm + ff, (by show [V.ref c, V.int (kd : Int), V.int ((at_ : Int) + 1 + (mm : Int) + (ff : Int))] = _; rw [e3]), kq.argl hc, kq.tab tb, ?_⟩
    have hto3 := kq.lst hto
    have hc3 := kq.argl hc
    have t3 := kq.tab tb
    have hS3 := kq.sets hS
    have hr3 : (upd H2 q (.lst (cutV (l.map V.int) (some ((at_ : Int) + 1 + (mm : Int))) (some ((at_ : Int) + 1 + (mm : Int) + (ff : Int)))))) r = some (.ins C dx2 [("sets", .ref ss)]) := kq.ext _ _ hr1 fun ps z => by cases z
    have hss3 := kq.lst hss
    have ok2 : ∀ q ∈ appS ps out, OkS q := by rw [← hout]; exact app_ok oks
    clear kq hc tb hS hss hr1 hto hq hx2
    generalize (upd H2 q (.lst (cutV (l.map V.int) (some ((at_ : Int) + 1 + (mm : Int))) (some ((at_ : Int) + 1 + (mm : Int) + (ff : Int)))))) = H3 at hq3 hto3 hc3 t3 hS3 hr3 hss3
    have h2lt : at_ < at2 ∧ at2 ≤ l.length := by
      rcases hrow with ⟨_, _, h⟩ | ⟨_, n, _, h, _, h'⟩ <;> omega
    -- from the tuple on
    have cont : ∀ H4 t q2, Kp J H3 H4 → Tab J H4 → H4 t = some (.tup [.ref q2, .int (at2 : Int)]) → IL H4 q2 row →
        (gTup K 2 (gCons (gName 8) (gCons (gName 9) gNil))) (.ref t) [some (.ref c), some (.ref r), some (.ref to), some (.int (at_ : Int)), some (.int (kd : Int)), some (.int (mm : Int)), some (.int (ff : Int)), some (.ref q), v8, v9, v10] H4 (fun σ' H' =>
          (tSeq (tAsg (tCall (spAns J C) [] E0 (tCons (tVar 1) (tCons (tVar 4) (tCons (L2.tSl (rSlL K) (tVar 0) (tPart (tOp (rI0 fun i j => .int (i + j)) (tVar 3) (tC (.int 1)))) (tPart (tOp (rI0 fun i j => .int (i + j)) (tOp (rI0 fun i j => .int (i + j)) (tVar 3) (tC (.int 1))) (tVar 5)))) (tCons (tVar 7) (tCons (tVar 8) tNil)))))) (gName 10))
          (tSeq (tDrop (tBM K "list" rAppend (tVar 2) (tCons (tCB (fun xs H Q => ∃ p ys, xs = [.ref p] ∧ (SqL K H p ys ∨ SqT K H p ys) ∧ Q (.int ys.length) H) (tCons (tVar 10) tNil)) tNil)))
          (tSeq (tDrop (tBM K "list" rExtend (tVar 2) (tCons (tVar 10) tNil)))
          (tAsg (tVar 9) (gName 3))))) { nx := fun σ' H' => ∃ m', m' < l.length - at_ ∧ AlP K J C c r ss to l T m' σ' H', rt := Q, bk := (tRet (tVar 2)) { nx := fun _ H' => Q .non H', rt := Q }, ct := fun σ' H' => ∃ m', m' < l.length - at_ ∧ AlP K J C c r ss to l T m' σ' H' } σ' H') := fun H4 t q2 k4 t4 ht hq2 => by
      refine ⟨t, _, rfl, SqT.of ht, rfl, _, _, rfl, _, _, rfl, rfl, ?_⟩
      have hc4 := k4.argl hc3
      refine ⟨_, rfl, _, rfl, _, rfl, _, rfl, _, _, rfl, rfl, _, rfl, _, rfl, _, _, rfl, rfl, _, rfl, _, _, rfl, rfl, _, rfl, c, _, rfl, hc4.sql, fun q3 hq3' => ?_⟩
      have k5 : Kp J H4 (upd H4 q3 (.lst (cutV (l.map V.int) (some ((at_ : Int) + 1)) (some ((at_ : Int) + 1 + (mm : Int)))))) := Kp.new hq3'
      have hq35 : IL (upd H4 q3 (.lst (cutV (l.map V.int) (some ((at_ : Int) + 1)) (some ((at_ : Int) + 1 + (mm : Int)))))) q3 ((l.drop (at_ + 1)).take mm) := upd_same.trans (by rw [ec2])
      have k35 := k4.trans k5
      have t5 := k5.tab t4
      have hss5 := k35.lst hss3
      have hS5 := k35.sets hS3
      have hr5 := k35.ext _ _ hr3 (fun ps z => by cases z)
      have hto5 := k35.lst hto3
      have hc5 := k35.argl hc3
      have hq5 := k35.lst hq3
      have hq25 := k5.lst hq2
      generalize (upd H4 q3 (.lst (cutV (l.map V.int) (some ((at_ : Int) + 1)) (some ((at_ : Int) + 1 + (mm : Int)))))) = H5 at hq35 t5 hss5 hS5 hr5 hto5 hc5 hq5 hq25
      have hsh : shp[kd]? = some (((l.drop (at_ + 1)).take mm).length, ((l.drop (at_ + 1 + mm)).take ff).length) := by
        rw [List.length_take, List.length_take, List.length_drop, List.length_drop, Nat.min_eq_left (by omega), Nat.min_eq_left (by omega)]
        exact hs
      refine ⟨_, rfl, _, rfl, kd, r, ss, q3, q, q2, rs, ps, _, _, row, rfl, ⟨⟨⟨dx2, hr5⟩, hss5⟩, hS5, oks, h8, hq35, hq5, hq25, h37, hsh, hput, hread⟩, t5, ?_⟩
      rw [hout]
      refine givesA_of hss5 h8 hS5 (fun H6 q6 rs' ks t6 hs6 l6 S6 in6 nq6 hq6 => ?_)
      have nto : to ≠ ss := set_ne hss5 rne hto5
      have hto6 := ks.lst hto5 nto
      have nq : to ≠ q6 := nq6.ne hto5
      have tn6 : to ∉ rs' := fun h => by
        rcases in6 to h with h | h
        · exact tn h
        · exact h _ hto5
      have eT2 : T = told ++ [((encS out).length : Int)] ++ encS out ++ ts' := by
        rw [eT]
        simp
      have lT : told.length + 1 + (encS out).length ≤ 10000000 := by
        have := congrArg List.length eT2
        simp at this
        omega
      refine ⟨_, rfl, .inl ⟨rfl, _, SqL.of hto6⟩, _, rfl, q6, _, rfl, .inl (SqL.of hq6), to, _, _, rfl, rfl, hto6, ?_, ?_⟩
      · rw [List.length_map]
        exact Nat.lt_of_le_of_lt (show told.length ≤ 10000000 by omega) (by decide)
      have hu : upd H6 to (.lst (told.map V.int ++ [V.int (((encS out).map V.int).length : Int)])) to = some (.lst (told.map V.int ++ [V.int (((encS out).map V.int).length : Int)])) := upd_same
      have hq7 : upd H6 to (.lst (told.map V.int ++ [V.int (((encS out).map V.int).length : Int)])) q6 = some (.lst ((encS out).map V.int)) := by rw [upd_ne (Ne.symm nq)]; exact hq6
      refine ⟨_, rfl, .inl ⟨rfl, _, SqL.of hu⟩, _, rfl, to, q6, _, _, rfl, rfl, hu, hq7, ?_, ?_⟩
      · rw [List.length_append, List.length_map, List.length_map]
        exact Nat.le_trans (show told.length + 1 + (encS out).length ≤ 10000000 by omega) (by decide)
      refine ⟨_, rfl, l.length - at2, by omega, at2, _, _, _, _, _, _, _, rs', appS ps out, told ++ [((encS out).length : Int)] ++ encS out, ts', rfl, h2lt.2, rfl, ?_, ?_, ⟨⟨dx2, ?_⟩, ?_⟩, ?_, l6, ok2, ?_, tn6, rest, eT2⟩
      · exact ((ks.argl hss5 hc5).upd hto6).upd hu
      · exact tab_upd (tab_upd t6 hto6) hu
      · have h6 := ks.ext _ _ hr5 (ne_of hr5 hss5 fun z => by cases z) (fun ps z => by cases z)
        rw [upd_ne (ne_of h6 hto6 fun z => by cases z), upd_ne (ne_of h6 hto6 fun z => by cases z)]
        exact h6
      · rw [upd_ne (Ne.symm nto), upd_ne (Ne.symm nto)]
        exact hs6
      · have : ∀ {us : List Addr} {ls : List (List Nat)}, Sets H6 us ls → (∀ x ∈ us, x ≠ to) → ∀ {o1 o2 : HO}, Sets (upd (upd H6 to o1) to o2) us ls := fun {us ls} hs hin {o1 o2} => by
          induction hs with
          | nil => exact .nil
          | cons h1 h2 ih =>
            refine .cons ?_ (ih fun x hx => hin x (by simp [hx]))
            rw [IL, upd_ne (hin _ (by simp)), upd_ne (hin _ (by simp))]
            exact h1
        exact this S6 fun x hx z => tn6 (by rw [← z]; exact hx)
      · rw [IL, upd_same, List.map_append, List.map_append, List.length_map]
        rfl
    refine ⟨fun n1 n3 H4 t q2 k4 t4 ht hq2 => ?_, fun h13 => ?_⟩
    · rcases hrow with ⟨_, er, ea⟩ | ⟨h, _⟩
      · rw [← ea] at ht
        rw [← er] at hq2
        exact cont H4 t q2 k4 t4 ht hq2
      · omega
    · rcases hrow with ⟨h, _⟩ | ⟨_, n, hn, hle, er, ea⟩
      · omega
      · refine ⟨n, hn, fun H4 t q2 k4 t4 ht hq2 => ?_⟩
        rw [← ea] at ht
        rw [← er] at hq2
        exact cont H4 t q2 k4 t4 ht hq2
end
end Ms
end

/-! text M8 -/
section
set_option Elab.async false
set_option linter.all false
set_option maxRecDepth 100000
set_option maxHeartbeats 4000000
namespace Ms
open Vabita
theorem reg_eq (x : Int) : reg x = if inG x = true then some x.toNat else none := by
  unfold reg inG REGISTERS
  by_cases c : 0 ≤ x ∧ x < 8
  · rw [if_pos (show 0 ≤ x ∧ x < ((8 : Nat) : Int) from c), if_pos (by simp [c.1, c.2])]
  · rw [if_neg (show ¬ (0 ≤ x ∧ x < ((8 : Nat) : Int)) from c), if_neg (by simp; omega)]
def toOut3 : Vabita.Out → Out3
  | .refuse n => .no n
  | .tell l => .tell l
  | .set i p => match putS p with
    | some n => .no n
    | none => .set i p
theorem step_of {ps : List (List Nat)} {c : Vabita.Call} {o : Out3} (h : toOut3 ((setting ⟨ps⟩ c).getD (asking ⟨ps⟩ c)) = o) : (Vabita.step ⟨ps⟩ c).1 = ⟨appS ps o⟩ ∧ VabitaNeutral.encode (Vabita.step ⟨ps⟩ c).2 = encS o := by
  unfold Vabita.step
  cases e : (setting ⟨ps⟩ c).getD (asking ⟨ps⟩ c) with
  | refuse n => rw [e] at h; subst h; exact ⟨rfl, rfl⟩
  | tell l => rw [e] at h; subst h; exact ⟨rfl, rfl⟩
  | set i p =>
    rw [e] at h
    subst h
    simp only [toOut3, keep, putS]
    by_cases c1 : (p.any fun b => decide (LAST < b)) = true
    · rw [if_pos c1, if_pos c1]
      exact ⟨rfl, rfl⟩
    · rw [if_neg c1, if_neg c1]
      by_cases c2 : MOST < p.length
      · rw [if_pos c2, if_pos c2]
        exact ⟨rfl, rfl⟩
      · rw [if_neg c2, if_neg c2]
        exact ⟨rfl, rfl⟩
theorem res3 (r : Res) (i : Nat) : (match r with | .no n => Out3.no n | .ok p => match putS p with | some n => .no n | none => .set i p) = toOut3 (match r with | .no n => .refuse n | .ok p => .set i p) := by
  cases r <;> rfl
theorem ask3 (r : Res) : (match r with | .ok l => Out3.tell l | .no n => .no n) = toOut3 (match r with | .no n => .refuse n | .ok p => .tell p) := by
  cases r <;> rfl


theorem k0 (ps : List (List Nat)) (x0 : Int) : toOut3 ((setting ⟨ps⟩ (.clear x0)).getD (asking ⟨ps⟩ (.clear x0))) = accS 0 ps [x0] [] [] := by
  simp only [setting, asking, Option.getD, own, stretch, set1, set2, setN, ask, askN, ask2, everyOut, reg_eq, num_eq, accS, List.all_cons, List.all_nil, Bool.and_true]
  by_cases c0 : inG x0 = true
  case neg =>
    have e0 : inG x0 = false := by simpa using c0
    simp [e0, toOut3]
  · simp only [c0, Bool.and_self, if_true]
    rfl
theorem k1 (ps : List (List Nat)) (x0 : Int) (row : List Int) : toOut3 ((setting ⟨ps⟩ (.put x0 row)).getD (asking ⟨ps⟩ (.put x0 row))) = accS 1 ps [x0] [] row := by
  simp only [setting, asking, Option.getD, own, stretch, set1, set2, setN, ask, askN, ask2, everyOut, reg_eq, num_eq, accS, List.all_cons, List.all_nil, Bool.and_true]
  by_cases c0 : inG x0 = true
  case neg =>
    have e0 : inG x0 = false := by simpa using c0
    simp [e0, toOut3]
  · simp only [c0, Bool.and_self, if_true]
    show toOut3 (match boundsOf row with | some p => Out.set x0.toNat p | none => Out.refuse (-2)) = (match (match boundsOf row with | some p => Res.ok p | none => Res.no (-2)) with | .no n => Out3.no n | .ok p => match putS p with | some n => .no n | none => .set x0.toNat p)
    cases boundsOf row <;> rfl
theorem k2 (ps : List (List Nat)) (x0 : Int) : toOut3 ((setting ⟨ps⟩ (.bounds x0)).getD (asking ⟨ps⟩ (.bounds x0))) = accS 2 ps [x0] [] [] := by
  simp only [setting, asking, Option.getD, own, stretch, set1, set2, setN, ask, askN, ask2, everyOut, reg_eq, num_eq, accS, List.all_cons, List.all_nil, Bool.and_true]
  by_cases c0 : inG x0 = true
  case neg =>
    have e0 : inG x0 = false := by simpa using c0
    simp [e0, toOut3]
  · simp only [c0, Bool.and_self, if_true]
    rfl
theorem k3 (ps : List (List Nat)) (x0 : Int) (row : List Int) : toOut3 ((setting ⟨ps⟩ (.read x0 (row.map Int.toNat))).getD (asking ⟨ps⟩ (.read x0 (row.map Int.toNat)))) = accS 3 ps [x0] [] row := by
  simp only [setting, asking, Option.getD, own, stretch, set1, set2, setN, ask, askN, ask2, everyOut, reg_eq, num_eq, accS, List.all_cons, List.all_nil, Bool.and_true]
  by_cases c0 : inG x0 = true
  case neg =>
    have e0 : inG x0 = false := by simpa using c0
    simp [e0, toOut3]
  · simp only [c0, Bool.and_self, if_true]
    show toOut3 (match Vabita.read (row.map Int.toNat) with | some p => Out.set x0.toNat p | none => Out.refuse (-2)) = (match (match Vabita.read (row.map Int.toNat) with | some p => Res.ok p | none => Res.no (-2)) with | .no n => Out3.no n | .ok p => match putS p with | some n => .no n | none => .set x0.toNat p)
    cases Vabita.read (row.map Int.toNat) <;> rfl
theorem k4 (ps : List (List Nat)) (x0 : Int) : toOut3 ((setting ⟨ps⟩ (.show x0)).getD (asking ⟨ps⟩ (.show x0))) = accS 4 ps [x0] [] [] := by
  simp only [setting, asking, Option.getD, own, stretch, set1, set2, setN, ask, askN, ask2, everyOut, reg_eq, num_eq, accS, List.all_cons, List.all_nil, Bool.and_true]
  by_cases c0 : inG x0 = true
  case neg =>
    have e0 : inG x0 = false := by simpa using c0
    simp [e0, toOut3]
  · simp only [c0, Bool.and_self, if_true]
    rfl
theorem k5 (ps : List (List Nat)) (x0 y0 y1 : Int) : toOut3 ((setting ⟨ps⟩ (.add x0 y0 y1)).getD (asking ⟨ps⟩ (.add x0 y0 y1))) = accS 5 ps [x0] [y0, y1] [] := by
  simp only [setting, asking, Option.getD, own, stretch, set1, set2, setN, ask, askN, ask2, everyOut, reg_eq, num_eq, accS, List.all_cons, List.all_nil, Bool.and_true]
  by_cases c0 : inG x0 = true
  case neg =>
    have e0 : inG x0 = false := by simpa using c0
    simp [e0, toOut3]
  by_cases c1 : inR y0 = true
  case neg =>
    have e1 : inR y0 = false := by simpa using c1
    simp [c0, e1, toOut3]
  by_cases c2 : inR y1 = true
  case neg =>
    have e2 : inR y1 = false := by simpa using c2
    simp [c0, c1, e2, toOut3]
  · simp only [c0, c1, c2, Bool.and_self, if_true]
    by_cases c : y0.toNat < y1.toNat
    · have e : changedS 5 (ps.getD x0.toNat []) [y0.toNat, y1.toNat] = .ok (either (ps.getD x0.toNat []) [y0.toNat, y1.toNat]) := if_neg fun z => z.2 c
      show toOut3 (if y0.toNat < y1.toNat then _ else _) = (match changedS 5 (ps.getD x0.toNat []) [y0.toNat, y1.toNat] with | .no n => Out3.no n | .ok p => match putS p with | some n => .no n | none => .set x0.toNat p)
      rw [if_pos c, e]
      rfl
    · have e : changedS 5 (ps.getD x0.toNat []) [y0.toNat, y1.toNat] = .no (-1) := if_pos ⟨by decide, c⟩
      show toOut3 (if y0.toNat < y1.toNat then _ else _) = (match changedS 5 (ps.getD x0.toNat []) [y0.toNat, y1.toNat] with | .no n => Out3.no n | .ok p => match putS p with | some n => .no n | none => .set x0.toNat p)
      rw [if_neg c, e]
      rfl
theorem k6 (ps : List (List Nat)) (x0 y0 : Int) : toOut3 ((setting ⟨ps⟩ (.open_ x0 y0)).getD (asking ⟨ps⟩ (.open_ x0 y0))) = accS 6 ps [x0] [y0] [] := by
  simp only [setting, asking, Option.getD, own, stretch, set1, set2, setN, ask, askN, ask2, everyOut, reg_eq, num_eq, accS, List.all_cons, List.all_nil, Bool.and_true]
  by_cases c0 : inG x0 = true
  case neg =>
    have e0 : inG x0 = false := by simpa using c0
    simp [e0, toOut3]
  by_cases c1 : inR y0 = true
  case neg =>
    have e1 : inR y0 = false := by simpa using c1
    simp [c0, e1, toOut3]
  · simp only [c0, c1, Bool.and_self, if_true]
    rfl
theorem k7 (ps : List (List Nat)) (x0 y0 y1 : Int) : toOut3 ((setting ⟨ps⟩ (.cut x0 y0 y1)).getD (asking ⟨ps⟩ (.cut x0 y0 y1))) = accS 7 ps [x0] [y0, y1] [] := by
  simp only [setting, asking, Option.getD, own, stretch, set1, set2, setN, ask, askN, ask2, everyOut, reg_eq, num_eq, accS, List.all_cons, List.all_nil, Bool.and_true]
  by_cases c0 : inG x0 = true
  case neg =>
    have e0 : inG x0 = false := by simpa using c0
    simp [e0, toOut3]
  by_cases c1 : inR y0 = true
  case neg =>
    have e1 : inR y0 = false := by simpa using c1
    simp [c0, e1, toOut3]
  by_cases c2 : inR y1 = true
  case neg =>
    have e2 : inR y1 = false := by simpa using c2
    simp [c0, c1, e2, toOut3]
  · simp only [c0, c1, c2, Bool.and_self, if_true]
    by_cases c : y0.toNat < y1.toNat
    · have e : changedS 7 (ps.getD x0.toNat []) [y0.toNat, y1.toNat] = .ok (less (ps.getD x0.toNat []) [y0.toNat, y1.toNat]) := if_neg fun z => z.2 c
      show toOut3 (if y0.toNat < y1.toNat then _ else _) = (match changedS 7 (ps.getD x0.toNat []) [y0.toNat, y1.toNat] with | .no n => Out3.no n | .ok p => match putS p with | some n => .no n | none => .set x0.toNat p)
      rw [if_pos c, e]
      rfl
    · have e : changedS 7 (ps.getD x0.toNat []) [y0.toNat, y1.toNat] = .no (-1) := if_pos ⟨by decide, c⟩
      show toOut3 (if y0.toNat < y1.toNat then _ else _) = (match changedS 7 (ps.getD x0.toNat []) [y0.toNat, y1.toNat] with | .no n => Out3.no n | .ok p => match putS p with | some n => .no n | none => .set x0.toNat p)
      rw [if_neg c, e]
      rfl
theorem k8 (ps : List (List Nat)) (x0 y0 : Int) : toOut3 ((setting ⟨ps⟩ (.halt_ x0 y0)).getD (asking ⟨ps⟩ (.halt_ x0 y0))) = accS 8 ps [x0] [y0] [] := by
  simp only [setting, asking, Option.getD, own, stretch, set1, set2, setN, ask, askN, ask2, everyOut, reg_eq, num_eq, accS, List.all_cons, List.all_nil, Bool.and_true]
  by_cases c0 : inG x0 = true
  case neg =>
    have e0 : inG x0 = false := by simpa using c0
    simp [e0, toOut3]
  by_cases c1 : inR y0 = true
  case neg =>
    have e1 : inR y0 = false := by simpa using c1
    simp [c0, e1, toOut3]
  · simp only [c0, c1, Bool.and_self, if_true]
    rfl
theorem k9 (ps : List (List Nat)) (x0 y0 : Int) : toOut3 ((setting ⟨ps⟩ (.flip x0 y0)).getD (asking ⟨ps⟩ (.flip x0 y0))) = accS 9 ps [x0] [y0] [] := by
  simp only [setting, asking, Option.getD, own, stretch, set1, set2, setN, ask, askN, ask2, everyOut, reg_eq, num_eq, accS, List.all_cons, List.all_nil, Bool.and_true]
  by_cases c0 : inG x0 = true
  case neg =>
    have e0 : inG x0 = false := by simpa using c0
    simp [e0, toOut3]
  by_cases c1 : inR y0 = true
  case neg =>
    have e1 : inR y0 = false := by simpa using c1
    simp [c0, e1, toOut3]
  · simp only [c0, c1, Bool.and_self, if_true]
    rfl
theorem k10 (ps : List (List Nat)) (x0 x1 x2 : Int) : toOut3 ((setting ⟨ps⟩ (.either x0 x1 x2)).getD (asking ⟨ps⟩ (.either x0 x1 x2))) = accS 10 ps [x0, x1, x2] [] [] := by
  simp only [setting, asking, Option.getD, own, stretch, set1, set2, setN, ask, askN, ask2, everyOut, reg_eq, num_eq, accS, List.all_cons, List.all_nil, Bool.and_true]
  by_cases c0 : inG x0 = true
  case neg =>
    have e0 : inG x0 = false := by simpa using c0
    simp [e0, toOut3]
  by_cases c1 : inG x1 = true
  case neg =>
    have e1 : inG x1 = false := by simpa using c1
    simp [c0, e1, toOut3]
  by_cases c2 : inG x2 = true
  case neg =>
    have e2 : inG x2 = false := by simpa using c2
    simp [c0, c1, e2, toOut3]
  · simp only [c0, c1, c2, Bool.and_self, if_true]
    rfl
theorem k11 (ps : List (List Nat)) (x0 x1 x2 : Int) : toOut3 ((setting ⟨ps⟩ (.both x0 x1 x2)).getD (asking ⟨ps⟩ (.both x0 x1 x2))) = accS 11 ps [x0, x1, x2] [] [] := by
  simp only [setting, asking, Option.getD, own, stretch, set1, set2, setN, ask, askN, ask2, everyOut, reg_eq, num_eq, accS, List.all_cons, List.all_nil, Bool.and_true]
  by_cases c0 : inG x0 = true
  case neg =>
    have e0 : inG x0 = false := by simpa using c0
    simp [e0, toOut3]
  by_cases c1 : inG x1 = true
  case neg =>
    have e1 : inG x1 = false := by simpa using c1
    simp [c0, e1, toOut3]
  by_cases c2 : inG x2 = true
  case neg =>
    have e2 : inG x2 = false := by simpa using c2
    simp [c0, c1, e2, toOut3]
  · simp only [c0, c1, c2, Bool.and_self, if_true]
    rfl
theorem k12 (ps : List (List Nat)) (x0 x1 x2 : Int) : toOut3 ((setting ⟨ps⟩ (.less x0 x1 x2)).getD (asking ⟨ps⟩ (.less x0 x1 x2))) = accS 12 ps [x0, x1, x2] [] [] := by
  simp only [setting, asking, Option.getD, own, stretch, set1, set2, setN, ask, askN, ask2, everyOut, reg_eq, num_eq, accS, List.all_cons, List.all_nil, Bool.and_true]
  by_cases c0 : inG x0 = true
  case neg =>
    have e0 : inG x0 = false := by simpa using c0
    simp [e0, toOut3]
  by_cases c1 : inG x1 = true
  case neg =>
    have e1 : inG x1 = false := by simpa using c1
    simp [c0, e1, toOut3]
  by_cases c2 : inG x2 = true
  case neg =>
    have e2 : inG x2 = false := by simpa using c2
    simp [c0, c1, e2, toOut3]
  · simp only [c0, c1, c2, Bool.and_self, if_true]
    rfl
theorem k13 (ps : List (List Nat)) (x0 x1 x2 : Int) : toOut3 ((setting ⟨ps⟩ (.odd x0 x1 x2)).getD (asking ⟨ps⟩ (.odd x0 x1 x2))) = accS 13 ps [x0, x1, x2] [] [] := by
  simp only [setting, asking, Option.getD, own, stretch, set1, set2, setN, ask, askN, ask2, everyOut, reg_eq, num_eq, accS, List.all_cons, List.all_nil, Bool.and_true]
  by_cases c0 : inG x0 = true
  case neg =>
    have e0 : inG x0 = false := by simpa using c0
    simp [e0, toOut3]
  by_cases c1 : inG x1 = true
  case neg =>
    have e1 : inG x1 = false := by simpa using c1
    simp [c0, e1, toOut3]
  by_cases c2 : inG x2 = true
  case neg =>
    have e2 : inG x2 = false := by simpa using c2
    simp [c0, c1, e2, toOut3]
  · simp only [c0, c1, c2, Bool.and_self, if_true]
    rfl
theorem k14 (ps : List (List Nat)) (x0 x1 : Int) : toOut3 ((setting ⟨ps⟩ (.other x0 x1)).getD (asking ⟨ps⟩ (.other x0 x1))) = accS 14 ps [x0, x1] [] [] := by
  simp only [setting, asking, Option.getD, own, stretch, set1, set2, setN, ask, askN, ask2, everyOut, reg_eq, num_eq, accS, List.all_cons, List.all_nil, Bool.and_true]
  by_cases c0 : inG x0 = true
  case neg =>
    have e0 : inG x0 = false := by simpa using c0
    simp [e0, toOut3]
  by_cases c1 : inG x1 = true
  case neg =>
    have e1 : inG x1 = false := by simpa using c1
    simp [c0, e1, toOut3]
  · simp only [c0, c1, Bool.and_self, if_true]
    rfl
theorem k15 (ps : List (List Nat)) (x0 x1 y0 : Int) : toOut3 ((setting ⟨ps⟩ (.later x0 x1 y0)).getD (asking ⟨ps⟩ (.later x0 x1 y0))) = accS 15 ps [x0, x1] [y0] [] := by
  simp only [setting, asking, Option.getD, own, stretch, set1, set2, setN, ask, askN, ask2, everyOut, reg_eq, num_eq, accS, List.all_cons, List.all_nil, Bool.and_true]
  by_cases c0 : inG x0 = true
  case neg =>
    have e0 : inG x0 = false := by simpa using c0
    simp [e0, toOut3]
  by_cases c1 : inG x1 = true
  case neg =>
    have e1 : inG x1 = false := by simpa using c1
    simp [c0, e1, toOut3]
  by_cases c2 : inR y0 = true
  case neg =>
    have e2 : inR y0 = false := by simpa using c2
    simp [c0, c1, e2, toOut3]
  · simp only [c0, c1, c2, Bool.and_self, if_true]
    rfl
theorem k16 (ps : List (List Nat)) (x0 x1 y0 : Int) : toOut3 ((setting ⟨ps⟩ (.earlier x0 x1 y0)).getD (asking ⟨ps⟩ (.earlier x0 x1 y0))) = accS 16 ps [x0, x1] [y0] [] := by
  simp only [setting, asking, Option.getD, own, stretch, set1, set2, setN, ask, askN, ask2, everyOut, reg_eq, num_eq, accS, List.all_cons, List.all_nil, Bool.and_true]
  by_cases c0 : inG x0 = true
  case neg =>
    have e0 : inG x0 = false := by simpa using c0
    simp [e0, toOut3]
  by_cases c1 : inG x1 = true
  case neg =>
    have e1 : inG x1 = false := by simpa using c1
    simp [c0, e1, toOut3]
  by_cases c2 : inR y0 = true
  case neg =>
    have e2 : inR y0 = false := by simpa using c2
    simp [c0, c1, e2, toOut3]
  · simp only [c0, c1, c2, Bool.and_self, if_true]
    rfl
theorem k17 (ps : List (List Nat)) (x0 x1 y0 : Int) : toOut3 ((setting ⟨ps⟩ (.recent x0 x1 y0)).getD (asking ⟨ps⟩ (.recent x0 x1 y0))) = accS 17 ps [x0, x1] [y0] [] := by
  simp only [setting, asking, Option.getD, own, stretch, set1, set2, setN, ask, askN, ask2, everyOut, reg_eq, num_eq, accS, List.all_cons, List.all_nil, Bool.and_true]
  by_cases c0 : inG x0 = true
  case neg =>
    have e0 : inG x0 = false := by simpa using c0
    simp [e0, toOut3]
  by_cases c1 : inG x1 = true
  case neg =>
    have e1 : inG x1 = false := by simpa using c1
    simp [c0, e1, toOut3]
  by_cases c2 : inR y0 = true
  case neg =>
    have e2 : inR y0 = false := by simpa using c2
    simp [c0, c1, e2, toOut3]
  · simp only [c0, c1, c2, Bool.and_self, if_true]
    rfl
theorem k18 (ps : List (List Nat)) (x0 x1 y0 : Int) : toOut3 ((setting ⟨ps⟩ (.steady x0 x1 y0)).getD (asking ⟨ps⟩ (.steady x0 x1 y0))) = accS 18 ps [x0, x1] [y0] [] := by
  simp only [setting, asking, Option.getD, own, stretch, set1, set2, setN, ask, askN, ask2, everyOut, reg_eq, num_eq, accS, List.all_cons, List.all_nil, Bool.and_true]
  by_cases c0 : inG x0 = true
  case neg =>
    have e0 : inG x0 = false := by simpa using c0
    simp [e0, toOut3]
  by_cases c1 : inG x1 = true
  case neg =>
    have e1 : inG x1 = false := by simpa using c1
    simp [c0, e1, toOut3]
  by_cases c2 : inR y0 = true
  case neg =>
    have e2 : inR y0 = false := by simpa using c2
    simp [c0, c1, e2, toOut3]
  · simp only [c0, c1, c2, Bool.and_self, if_true]
    rfl
theorem k19 (ps : List (List Nat)) (x0 x1 y0 : Int) : toOut3 ((setting ⟨ps⟩ (.soon x0 x1 y0)).getD (asking ⟨ps⟩ (.soon x0 x1 y0))) = accS 19 ps [x0, x1] [y0] [] := by
  simp only [setting, asking, Option.getD, own, stretch, set1, set2, setN, ask, askN, ask2, everyOut, reg_eq, num_eq, accS, List.all_cons, List.all_nil, Bool.and_true]
  by_cases c0 : inG x0 = true
  case neg =>
    have e0 : inG x0 = false := by simpa using c0
    simp [e0, toOut3]
  by_cases c1 : inG x1 = true
  case neg =>
    have e1 : inG x1 = false := by simpa using c1
    simp [c0, e1, toOut3]
  by_cases c2 : inR y0 = true
  case neg =>
    have e2 : inR y0 = false := by simpa using c2
    simp [c0, c1, e2, toOut3]
  · simp only [c0, c1, c2, Bool.and_self, if_true]
    rfl
theorem k20 (ps : List (List Nat)) (x0 x1 : Int) : toOut3 ((setting ⟨ps⟩ (.hull x0 x1)).getD (asking ⟨ps⟩ (.hull x0 x1))) = accS 20 ps [x0, x1] [] [] := by
  simp only [setting, asking, Option.getD, own, stretch, set1, set2, setN, ask, askN, ask2, everyOut, reg_eq, num_eq, accS, List.all_cons, List.all_nil, Bool.and_true]
  by_cases c0 : inG x0 = true
  case neg =>
    have e0 : inG x0 = false := by simpa using c0
    simp [e0, toOut3]
  by_cases c1 : inG x1 = true
  case neg =>
    have e1 : inG x1 = false := by simpa using c1
    simp [c0, e1, toOut3]
  · simp only [c0, c1, Bool.and_self, if_true]
    rfl
theorem k21 (ps : List (List Nat)) (x0 x1 : Int) : toOut3 ((setting ⟨ps⟩ (.gaps x0 x1)).getD (asking ⟨ps⟩ (.gaps x0 x1))) = accS 21 ps [x0, x1] [] [] := by
  simp only [setting, asking, Option.getD, own, stretch, set1, set2, setN, ask, askN, ask2, everyOut, reg_eq, num_eq, accS, List.all_cons, List.all_nil, Bool.and_true]
  by_cases c0 : inG x0 = true
  case neg =>
    have e0 : inG x0 = false := by simpa using c0
    simp [e0, toOut3]
  by_cases c1 : inG x1 = true
  case neg =>
    have e1 : inG x1 = false := by simpa using c1
    simp [c0, e1, toOut3]
  · simp only [c0, c1, Bool.and_self, if_true]
    rfl
theorem k22 (ps : List (List Nat)) (x0 x1 y0 : Int) : toOut3 ((setting ⟨ps⟩ (.lasting x0 x1 y0)).getD (asking ⟨ps⟩ (.lasting x0 x1 y0))) = accS 22 ps [x0, x1] [y0] [] := by
  simp only [setting, asking, Option.getD, own, stretch, set1, set2, setN, ask, askN, ask2, everyOut, reg_eq, num_eq, accS, List.all_cons, List.all_nil, Bool.and_true]
  by_cases c0 : inG x0 = true
  case neg =>
    have e0 : inG x0 = false := by simpa using c0
    simp [e0, toOut3]
  by_cases c1 : inG x1 = true
  case neg =>
    have e1 : inG x1 = false := by simpa using c1
    simp [c0, e1, toOut3]
  by_cases c2 : inR y0 = true
  case neg =>
    have e2 : inR y0 = false := by simpa using c2
    simp [c0, c1, e2, toOut3]
  · simp only [c0, c1, c2, Bool.and_self, if_true]
    rfl
theorem k23 (ps : List (List Nat)) (x0 x1 y0 : Int) : toOut3 ((setting ⟨ps⟩ (.fill x0 x1 y0)).getD (asking ⟨ps⟩ (.fill x0 x1 y0))) = accS 23 ps [x0, x1] [y0] [] := by
  simp only [setting, asking, Option.getD, own, stretch, set1, set2, setN, ask, askN, ask2, everyOut, reg_eq, num_eq, accS, List.all_cons, List.all_nil, Bool.and_true]
  by_cases c0 : inG x0 = true
  case neg =>
    have e0 : inG x0 = false := by simpa using c0
    simp [e0, toOut3]
  by_cases c1 : inG x1 = true
  case neg =>
    have e1 : inG x1 = false := by simpa using c1
    simp [c0, e1, toOut3]
  by_cases c2 : inR y0 = true
  case neg =>
    have e2 : inR y0 = false := by simpa using c2
    simp [c0, c1, e2, toOut3]
  · simp only [c0, c1, c2, Bool.and_self, if_true]
    rfl
theorem k24 (ps : List (List Nat)) (x0 y0 y1 y2 y3 : Int) : toOut3 ((setting ⟨ps⟩ (.every x0 y0 y1 y2 y3)).getD (asking ⟨ps⟩ (.every x0 y0 y1 y2 y3))) = accS 24 ps [x0] [y0, y1, y2, y3] [] := by
  simp only [setting, asking, Option.getD, own, stretch, set1, set2, setN, ask, askN, ask2, everyOut, reg_eq, num_eq, accS, List.all_cons, List.all_nil, Bool.and_true]
  by_cases c0 : inG x0 = true
  case neg =>
    have e0 : inG x0 = false := by simpa using c0
    simp [e0, toOut3]
  by_cases c1 : inR y0 = true
  case neg =>
    have e1 : inR y0 = false := by simpa using c1
    simp [c0, e1, toOut3]
  by_cases c2 : inR y1 = true
  case neg =>
    have e2 : inR y1 = false := by simpa using c2
    simp [c0, c1, e2, toOut3]
  by_cases c3 : inR y2 = true
  case neg =>
    have e3 : inR y2 = false := by simpa using c3
    simp [c0, c1, c2, e3, toOut3]
  by_cases c4 : inR y3 = true
  case neg =>
    have e4 : inR y3 = false := by simpa using c4
    simp [c0, c1, c2, c3, e4, toOut3]
  · simp only [c0, c1, c2, c3, c4, Bool.and_self, if_true]
    by_cases c : 1 ≤ y2.toNat ∧ y2.toNat ≤ y1.toNat ∧ y3.toNat ≤ 32
    · show toOut3 (if _ then _ else _) = (match runsS y0.toNat y1.toNat y2.toNat y3.toNat with | .no n => Out3.no n | .ok p => match putS p with | some n => .no n | none => .set x0.toNat p)
      rw [if_pos c, show runsS y0.toNat y1.toNat y2.toNat y3.toNat = .ok (every y0.toNat y1.toNat y2.toNat y3.toNat) from if_pos c]
      rfl
    · show toOut3 (if _ then _ else _) = (match runsS y0.toNat y1.toNat y2.toNat y3.toNat with | .no n => Out3.no n | .ok p => match putS p with | some n => .no n | none => .set x0.toNat p)
      rw [if_neg c, show runsS y0.toNat y1.toNat y2.toNat y3.toNat = .no (-1) from if_neg c]
      rfl
theorem k25 (ps : List (List Nat)) (x0 y0 : Int) : toOut3 ((setting ⟨ps⟩ (.has x0 y0)).getD (asking ⟨ps⟩ (.has x0 y0))) = accS 25 ps [x0] [y0] [] := by
  simp only [setting, asking, Option.getD, own, stretch, set1, set2, setN, ask, askN, ask2, everyOut, reg_eq, num_eq, accS, List.all_cons, List.all_nil, Bool.and_true]
  by_cases c0 : inG x0 = true
  case neg =>
    have e0 : inG x0 = false := by simpa using c0
    simp [e0, toOut3]
  by_cases c1 : inR y0 = true
  case neg =>
    have e1 : inR y0 = false := by simpa using c1
    simp [c0, e1, toOut3]
  · simp only [c0, c1, Bool.and_self, if_true]
    rfl
theorem k26 (ps : List (List Nat)) (x0 : Int) : toOut3 ((setting ⟨ps⟩ (.first x0)).getD (asking ⟨ps⟩ (.first x0))) = accS 26 ps [x0] [] [] := by
  simp only [setting, asking, Option.getD, own, stretch, set1, set2, setN, ask, askN, ask2, everyOut, reg_eq, num_eq, accS, List.all_cons, List.all_nil, Bool.and_true]
  by_cases c0 : inG x0 = true
  case neg =>
    have e0 : inG x0 = false := by simpa using c0
    simp [e0, toOut3]
  · simp only [c0, Bool.and_self, if_true]
    show toOut3 (found ((ps.getD x0.toNat []).head?)) = (match foundS ((ps.getD x0.toNat []).head?) with | .ok l => Out3.tell l | .no n => .no n)
    cases (ps.getD x0.toNat []).head? <;> rfl
theorem k27 (ps : List (List Nat)) (x0 : Int) : toOut3 ((setting ⟨ps⟩ (.last x0)).getD (asking ⟨ps⟩ (.last x0))) = accS 27 ps [x0] [] [] := by
  simp only [setting, asking, Option.getD, own, stretch, set1, set2, setN, ask, askN, ask2, everyOut, reg_eq, num_eq, accS, List.all_cons, List.all_nil, Bool.and_true]
  by_cases c0 : inG x0 = true
  case neg =>
    have e0 : inG x0 = false := by simpa using c0
    simp [e0, toOut3]
  · simp only [c0, Bool.and_self, if_true]
    show toOut3 (lastOf (ps.getD x0.toNat [])) = (match lastS (ps.getD x0.toNat []) with | .ok l => Out3.tell l | .no n => .no n)
    unfold lastOf lastS
    cases endless (ps.getD x0.toNat [])
    · show toOut3 (found _) = (match foundS _ with | .ok l => Out3.tell l | .no n => .no n)
      cases Option.map (fun x => x - 1) (ps.getD x0.toNat []).getLast? <;> rfl
    · rfl
theorem k28 (ps : List (List Nat)) (x0 : Int) : toOut3 ((setting ⟨ps⟩ (.size x0)).getD (asking ⟨ps⟩ (.size x0))) = accS 28 ps [x0] [] [] := by
  simp only [setting, asking, Option.getD, own, stretch, set1, set2, setN, ask, askN, ask2, everyOut, reg_eq, num_eq, accS, List.all_cons, List.all_nil, Bool.and_true]
  by_cases c0 : inG x0 = true
  case neg =>
    have e0 : inG x0 = false := by simpa using c0
    simp [e0, toOut3]
  · simp only [c0, Bool.and_self, if_true]
    show toOut3 (if endless (ps.getD x0.toNat []) = true then _ else _) = (match sizeS (ps.getD x0.toNat []) with | .ok l => Out3.tell l | .no n => .no n)
    unfold sizeS
    cases endless (ps.getD x0.toNat []) <;> rfl
theorem k29 (ps : List (List Nat)) (x0 y0 : Int) : toOut3 ((setting ⟨ps⟩ (.next x0 y0)).getD (asking ⟨ps⟩ (.next x0 y0))) = accS 29 ps [x0] [y0] [] := by
  simp only [setting, asking, Option.getD, own, stretch, set1, set2, setN, ask, askN, ask2, everyOut, reg_eq, num_eq, accS, List.all_cons, List.all_nil, Bool.and_true]
  by_cases c0 : inG x0 = true
  case neg =>
    have e0 : inG x0 = false := by simpa using c0
    simp [e0, toOut3]
  by_cases c1 : inR y0 = true
  case neg =>
    have e1 : inR y0 = false := by simpa using c1
    simp [c0, e1, toOut3]
  · simp only [c0, c1, Bool.and_self, if_true]
    show toOut3 (found (nextIn (ps.getD x0.toNat []) y0.toNat)) = (match foundS (nextIn (ps.getD x0.toNat []) y0.toNat) with | .ok l => Out3.tell l | .no n => .no n)
    cases nextIn (ps.getD x0.toNat []) y0.toNat <;> rfl
theorem k30 (ps : List (List Nat)) (x0 y0 : Int) : toOut3 ((setting ⟨ps⟩ (.prev x0 y0)).getD (asking ⟨ps⟩ (.prev x0 y0))) = accS 30 ps [x0] [y0] [] := by
  simp only [setting, asking, Option.getD, own, stretch, set1, set2, setN, ask, askN, ask2, everyOut, reg_eq, num_eq, accS, List.all_cons, List.all_nil, Bool.and_true]
  by_cases c0 : inG x0 = true
  case neg =>
    have e0 : inG x0 = false := by simpa using c0
    simp [e0, toOut3]
  by_cases c1 : inR y0 = true
  case neg =>
    have e1 : inR y0 = false := by simpa using c1
    simp [c0, e1, toOut3]
  · simp only [c0, c1, Bool.and_self, if_true]
    show toOut3 (found (prevIn (ps.getD x0.toNat []) y0.toNat)) = (match foundS (prevIn (ps.getD x0.toNat []) y0.toNat) with | .ok l => Out3.tell l | .no n => .no n)
    cases prevIn (ps.getD x0.toNat []) y0.toNat <;> rfl
theorem k31 (ps : List (List Nat)) (x0 y0 : Int) : toOut3 ((setting ⟨ps⟩ (.nth x0 y0)).getD (asking ⟨ps⟩ (.nth x0 y0))) = accS 31 ps [x0] [y0] [] := by
  simp only [setting, asking, Option.getD, own, stretch, set1, set2, setN, ask, askN, ask2, everyOut, reg_eq, num_eq, accS, List.all_cons, List.all_nil, Bool.and_true]
  by_cases c0 : inG x0 = true
  case neg =>
    have e0 : inG x0 = false := by simpa using c0
    simp [e0, toOut3]
  by_cases c1 : inR y0 = true
  case neg =>
    have e1 : inR y0 = false := by simpa using c1
    simp [c0, e1, toOut3]
  · simp only [c0, c1, Bool.and_self, if_true]
    show toOut3 (found (nth (pieces (ps.getD x0.toNat [])) y0.toNat)) = (match foundS (nth (pieces (ps.getD x0.toNat [])) y0.toNat) with | .ok l => Out3.tell l | .no n => .no n)
    cases nth (pieces (ps.getD x0.toNat [])) y0.toNat <;> rfl
theorem k32 (ps : List (List Nat)) (x0 y0 : Int) : toOut3 ((setting ⟨ps⟩ (.rank x0 y0)).getD (asking ⟨ps⟩ (.rank x0 y0))) = accS 32 ps [x0] [y0] [] := by
  simp only [setting, asking, Option.getD, own, stretch, set1, set2, setN, ask, askN, ask2, everyOut, reg_eq, num_eq, accS, List.all_cons, List.all_nil, Bool.and_true]
  by_cases c0 : inG x0 = true
  case neg =>
    have e0 : inG x0 = false := by simpa using c0
    simp [e0, toOut3]
  by_cases c1 : inR y0 = true
  case neg =>
    have e1 : inR y0 = false := by simpa using c1
    simp [c0, e1, toOut3]
  · simp only [c0, c1, Bool.and_self, if_true]
    rfl
theorem k33 (ps : List (List Nat)) (x0 : Int) : toOut3 ((setting ⟨ps⟩ (.pieces x0)).getD (asking ⟨ps⟩ (.pieces x0))) = accS 33 ps [x0] [] [] := by
  simp only [setting, asking, Option.getD, own, stretch, set1, set2, setN, ask, askN, ask2, everyOut, reg_eq, num_eq, accS, List.all_cons, List.all_nil, Bool.and_true]
  by_cases c0 : inG x0 = true
  case neg =>
    have e0 : inG x0 = false := by simpa using c0
    simp [e0, toOut3]
  · simp only [c0, Bool.and_self, if_true]
    rfl
theorem k34 (ps : List (List Nat)) (x0 y0 : Int) : toOut3 ((setting ⟨ps⟩ (.piece x0 y0)).getD (asking ⟨ps⟩ (.piece x0 y0))) = accS 34 ps [x0] [y0] [] := by
  simp only [setting, asking, Option.getD, own, stretch, set1, set2, setN, ask, askN, ask2, everyOut, reg_eq, num_eq, accS, List.all_cons, List.all_nil, Bool.and_true]
  by_cases c0 : inG x0 = true
  case neg =>
    have e0 : inG x0 = false := by simpa using c0
    simp [e0, toOut3]
  by_cases c1 : inR y0 = true
  case neg =>
    have e1 : inR y0 = false := by simpa using c1
    simp [c0, e1, toOut3]
  · simp only [c0, c1, Bool.and_self, if_true]
    show toOut3 (tellPiece (pieces (ps.getD x0.toNat []))[y0.toNat]?) = (match pieceS (pieces (ps.getD x0.toNat []))[y0.toNat]? with | .ok l => Out3.tell l | .no n => .no n)
    cases (pieces (ps.getD x0.toNat []))[y0.toNat]? with
    | none => rfl
    | some x =>
      obtain ⟨a, e⟩ := x
      cases e <;> rfl
theorem k35 (ps : List (List Nat)) (x0 x1 : Int) : toOut3 ((setting ⟨ps⟩ (.relate x0 x1)).getD (asking ⟨ps⟩ (.relate x0 x1))) = accS 35 ps [x0, x1] [] [] := by
  simp only [setting, asking, Option.getD, own, stretch, set1, set2, setN, ask, askN, ask2, everyOut, reg_eq, num_eq, accS, List.all_cons, List.all_nil, Bool.and_true]
  by_cases c0 : inG x0 = true
  case neg =>
    have e0 : inG x0 = false := by simpa using c0
    simp [e0, toOut3]
  by_cases c1 : inG x1 = true
  case neg =>
    have e1 : inG x1 = false := by simpa using c1
    simp [c0, e1, toOut3]
  · simp only [c0, c1, Bool.and_self, if_true]
    rfl
theorem k36 (ps : List (List Nat)) (x0 x1 : Int) : toOut3 ((setting ⟨ps⟩ (.allen x0 x1)).getD (asking ⟨ps⟩ (.allen x0 x1))) = accS 36 ps [x0, x1] [] [] := by
  simp only [setting, asking, Option.getD, own, stretch, set1, set2, setN, ask, askN, ask2, everyOut, reg_eq, num_eq, accS, List.all_cons, List.all_nil, Bool.and_true]
  by_cases c0 : inG x0 = true
  case neg =>
    have e0 : inG x0 = false := by simpa using c0
    simp [e0, toOut3]
  by_cases c1 : inG x1 = true
  case neg =>
    have e1 : inG x1 = false := by simpa using c1
    simp [c0, e1, toOut3]
  · simp only [c0, c1, Bool.and_self, if_true]
    show toOut3 (found (allen (ps.getD x0.toNat []) (ps.getD x1.toNat []))) = (match foundS (allen (ps.getD x0.toNat []) (ps.getD x1.toNat [])) with | .ok l => Out3.tell l | .no n => .no n)
    cases allen (ps.getD x0.toNat []) (ps.getD x1.toNat []) <;> rfl
end Ms
end

/-! text M9 -/
section
set_option Elab.async false
set_option linter.all false
set_option maxRecDepth 100000
set_option maxHeartbeats 4000000
namespace Ms
open Vabita
theorem shape_inv {p : Int} {n kr : Nat} (h : PyVabita.shape p = some (n, kr)) : ∃ k m f, p = ((k : Nat) : Int) ∧ k < 37 ∧ shp[k]? = some (m, f) ∧ n = m + f ∧ kr = (if k = 1 ∨ k = 3 then 1 else 0) := by
  unfold PyVabita.shape at h
  by_cases c0 : p = 0
  · rw [if_pos c0] at h
    cases h
    exact ⟨0, 1, 0, c0, by decide, rfl, rfl, rfl⟩
  rw [if_neg c0] at h
  by_cases c1 : p = 1
  · rw [if_pos c1] at h
    cases h
    exact ⟨1, 1, 0, c1, by decide, rfl, rfl, rfl⟩
  rw [if_neg c1] at h
  by_cases c2 : p = 2
  · rw [if_pos c2] at h
    cases h
    exact ⟨2, 1, 0, c2, by decide, rfl, rfl, rfl⟩
  rw [if_neg c2] at h
  by_cases c3 : p = 3
  · rw [if_pos c3] at h
    cases h
    exact ⟨3, 1, 0, c3, by decide, rfl, rfl, rfl⟩
  rw [if_neg c3] at h
  by_cases c4 : p = 4
  · rw [if_pos c4] at h
    cases h
    exact ⟨4, 1, 0, c4, by decide, rfl, rfl, rfl⟩
  rw [if_neg c4] at h
  by_cases c5 : p = 5
  · rw [if_pos c5] at h
    cases h
    exact ⟨5, 1, 2, c5, by decide, rfl, rfl, rfl⟩
  rw [if_neg c5] at h
  by_cases c6 : p = 6
  · rw [if_pos c6] at h
    cases h
    exact ⟨6, 1, 1, c6, by decide, rfl, rfl, rfl⟩
  rw [if_neg c6] at h
  by_cases c7 : p = 7
  · rw [if_pos c7] at h
    cases h
    exact ⟨7, 1, 2, c7, by decide, rfl, rfl, rfl⟩
  rw [if_neg c7] at h
  by_cases c8 : p = 8
  · rw [if_pos c8] at h
    cases h
    exact ⟨8, 1, 1, c8, by decide, rfl, rfl, rfl⟩
  rw [if_neg c8] at h
  by_cases c9 : p = 9
  · rw [if_pos c9] at h
    cases h
    exact ⟨9, 1, 1, c9, by decide, rfl, rfl, rfl⟩
  rw [if_neg c9] at h
  by_cases c10 : p = 10
  · rw [if_pos c10] at h
    cases h
    exact ⟨10, 3, 0, c10, by decide, rfl, rfl, rfl⟩
  rw [if_neg c10] at h
  by_cases c11 : p = 11
  · rw [if_pos c11] at h
    cases h
    exact ⟨11, 3, 0, c11, by decide, rfl, rfl, rfl⟩
  rw [if_neg c11] at h
  by_cases c12 : p = 12
  · rw [if_pos c12] at h
    cases h
    exact ⟨12, 3, 0, c12, by decide, rfl, rfl, rfl⟩
  rw [if_neg c12] at h
  by_cases c13 : p = 13
  · rw [if_pos c13] at h
    cases h
    exact ⟨13, 3, 0, c13, by decide, rfl, rfl, rfl⟩
  rw [if_neg c13] at h
  by_cases c14 : p = 14
  · rw [if_pos c14] at h
    cases h
    exact ⟨14, 2, 0, c14, by decide, rfl, rfl, rfl⟩
  rw [if_neg c14] at h
  by_cases c15 : p = 15
  · rw [if_pos c15] at h
    cases h
    exact ⟨15, 2, 1, c15, by decide, rfl, rfl, rfl⟩
  rw [if_neg c15] at h
  by_cases c16 : p = 16
  · rw [if_pos c16] at h
    cases h
    exact ⟨16, 2, 1, c16, by decide, rfl, rfl, rfl⟩
  rw [if_neg c16] at h
  by_cases c17 : p = 17
  · rw [if_pos c17] at h
    cases h
    exact ⟨17, 2, 1, c17, by decide, rfl, rfl, rfl⟩
  rw [if_neg c17] at h
  by_cases c18 : p = 18
  · rw [if_pos c18] at h
    cases h
    exact ⟨18, 2, 1, c18, by decide, rfl, rfl, rfl⟩
  rw [if_neg c18] at h
  by_cases c19 : p = 19
  · rw [if_pos c19] at h
    cases h
    exact ⟨19, 2, 1, c19, by decide, rfl, rfl, rfl⟩
  rw [if_neg c19] at h
  by_cases c20 : p = 20
  · rw [if_pos c20] at h
    cases h
    exact ⟨20, 2, 0, c20, by decide, rfl, rfl, rfl⟩
  rw [if_neg c20] at h
  by_cases c21 : p = 21
  · rw [if_pos c21] at h
    cases h
    exact ⟨21, 2, 0, c21, by decide, rfl, rfl, rfl⟩
  rw [if_neg c21] at h
  by_cases c22 : p = 22
  · rw [if_pos c22] at h
    cases h
    exact ⟨22, 2, 1, c22, by decide, rfl, rfl, rfl⟩
  rw [if_neg c22] at h
  by_cases c23 : p = 23
  · rw [if_pos c23] at h
    cases h
    exact ⟨23, 2, 1, c23, by decide, rfl, rfl, rfl⟩
  rw [if_neg c23] at h
  by_cases c24 : p = 24
  · rw [if_pos c24] at h
    cases h
    exact ⟨24, 1, 4, c24, by decide, rfl, rfl, rfl⟩
  rw [if_neg c24] at h
  by_cases c25 : p = 25
  · rw [if_pos c25] at h
    cases h
    exact ⟨25, 1, 1, c25, by decide, rfl, rfl, rfl⟩
  rw [if_neg c25] at h
  by_cases c26 : p = 26
  · rw [if_pos c26] at h
    cases h
    exact ⟨26, 1, 0, c26, by decide, rfl, rfl, rfl⟩
  rw [if_neg c26] at h
  by_cases c27 : p = 27
  · rw [if_pos c27] at h
    cases h
    exact ⟨27, 1, 0, c27, by decide, rfl, rfl, rfl⟩
  rw [if_neg c27] at h
  by_cases c28 : p = 28
  · rw [if_pos c28] at h
    cases h
    exact ⟨28, 1, 0, c28, by decide, rfl, rfl, rfl⟩
  rw [if_neg c28] at h
  by_cases c29 : p = 29
  · rw [if_pos c29] at h
    cases h
    exact ⟨29, 1, 1, c29, by decide, rfl, rfl, rfl⟩
  rw [if_neg c29] at h
  by_cases c30 : p = 30
  · rw [if_pos c30] at h
    cases h
    exact ⟨30, 1, 1, c30, by decide, rfl, rfl, rfl⟩
  rw [if_neg c30] at h
  by_cases c31 : p = 31
  · rw [if_pos c31] at h
    cases h
    exact ⟨31, 1, 1, c31, by decide, rfl, rfl, rfl⟩
  rw [if_neg c31] at h
  by_cases c32 : p = 32
  · rw [if_pos c32] at h
    cases h
    exact ⟨32, 1, 1, c32, by decide, rfl, rfl, rfl⟩
  rw [if_neg c32] at h
  by_cases c33 : p = 33
  · rw [if_pos c33] at h
    cases h
    exact ⟨33, 1, 0, c33, by decide, rfl, rfl, rfl⟩
  rw [if_neg c33] at h
  by_cases c34 : p = 34
  · rw [if_pos c34] at h
    cases h
    exact ⟨34, 1, 1, c34, by decide, rfl, rfl, rfl⟩
  rw [if_neg c34] at h
  by_cases c35 : p = 35
  · rw [if_pos c35] at h
    cases h
    exact ⟨35, 2, 0, c35, by decide, rfl, rfl, rfl⟩
  rw [if_neg c35] at h
  by_cases c36 : p = 36
  · rw [if_pos c36] at h
    cases h
    exact ⟨36, 2, 0, c36, by decide, rfl, rfl, rfl⟩
  rw [if_neg c36] at h
  cases h
theorem s0 (ps : List (List Nat)) (x0 : Int) : VabitaNeutral.step ⟨ps⟩ (PyVabita.whole [[0, x0]]) = (⟨appS ps (accS 0 ps [x0] [] [])⟩, encS (accS 0 ps [x0] [] [])) := by
  have h := step_of (k0 ps x0)
  have e : VabitaNeutral.callOf (PyVabita.whole [[0, x0]]) = some (.clear x0) := rfl
  unfold VabitaNeutral.step
  rw [e]
  exact Prod.ext h.1 h.2
theorem s1 (ps : List (List Nat)) (x0 : Int) (row : List Int) : VabitaNeutral.step ⟨ps⟩ (PyVabita.whole [[1, x0], row]) = (⟨appS ps (accS 1 ps [x0] [] row)⟩, encS (accS 1 ps [x0] [] row)) := by
  have h := step_of (k1 ps x0 row)
  have e : VabitaNeutral.callOf (PyVabita.whole [[1, x0], row]) = some (.put x0 row) := rfl
  unfold VabitaNeutral.step
  rw [e]
  exact Prod.ext h.1 h.2
theorem s2 (ps : List (List Nat)) (x0 : Int) : VabitaNeutral.step ⟨ps⟩ (PyVabita.whole [[2, x0]]) = (⟨appS ps (accS 2 ps [x0] [] [])⟩, encS (accS 2 ps [x0] [] [])) := by
  have h := step_of (k2 ps x0)
  have e : VabitaNeutral.callOf (PyVabita.whole [[2, x0]]) = some (.bounds x0) := rfl
  unfold VabitaNeutral.step
  rw [e]
  exact Prod.ext h.1 h.2
theorem s3 (ps : List (List Nat)) (x0 : Int) (row : List Int) (hb : NeutralIO.bytes row = true) : VabitaNeutral.step ⟨ps⟩ (PyVabita.whole [[3, x0], row]) = (⟨appS ps (accS 3 ps [x0] [] row)⟩, encS (accS 3 ps [x0] [] row)) := by
  have h := step_of (k3 ps x0 row)
  have e : VabitaNeutral.callOf (PyVabita.whole [[3, x0], row]) = some (.read x0 (row.map Int.toNat)) := if_pos hb
  unfold VabitaNeutral.step
  rw [e]
  exact Prod.ext h.1 h.2
theorem s4 (ps : List (List Nat)) (x0 : Int) : VabitaNeutral.step ⟨ps⟩ (PyVabita.whole [[4, x0]]) = (⟨appS ps (accS 4 ps [x0] [] [])⟩, encS (accS 4 ps [x0] [] [])) := by
  have h := step_of (k4 ps x0)
  have e : VabitaNeutral.callOf (PyVabita.whole [[4, x0]]) = some (.show x0) := rfl
  unfold VabitaNeutral.step
  rw [e]
  exact Prod.ext h.1 h.2
theorem s5 (ps : List (List Nat)) (x0 y0 y1 : Int) : VabitaNeutral.step ⟨ps⟩ (PyVabita.whole [[5, x0, y0, y1]]) = (⟨appS ps (accS 5 ps [x0] [y0, y1] [])⟩, encS (accS 5 ps [x0] [y0, y1] [])) := by
  have h := step_of (k5 ps x0 y0 y1)
  have e : VabitaNeutral.callOf (PyVabita.whole [[5, x0, y0, y1]]) = some (.add x0 y0 y1) := rfl
  unfold VabitaNeutral.step
  rw [e]
  exact Prod.ext h.1 h.2
theorem s6 (ps : List (List Nat)) (x0 y0 : Int) : VabitaNeutral.step ⟨ps⟩ (PyVabita.whole [[6, x0, y0]]) = (⟨appS ps (accS 6 ps [x0] [y0] [])⟩, encS (accS 6 ps [x0] [y0] [])) := by
  have h := step_of (k6 ps x0 y0)
  have e : VabitaNeutral.callOf (PyVabita.whole [[6, x0, y0]]) = some (.open_ x0 y0) := rfl
  unfold VabitaNeutral.step
  rw [e]
  exact Prod.ext h.1 h.2
theorem s7 (ps : List (List Nat)) (x0 y0 y1 : Int) : VabitaNeutral.step ⟨ps⟩ (PyVabita.whole [[7, x0, y0, y1]]) = (⟨appS ps (accS 7 ps [x0] [y0, y1] [])⟩, encS (accS 7 ps [x0] [y0, y1] [])) := by
  have h := step_of (k7 ps x0 y0 y1)
  have e : VabitaNeutral.callOf (PyVabita.whole [[7, x0, y0, y1]]) = some (.cut x0 y0 y1) := rfl
  unfold VabitaNeutral.step
  rw [e]
  exact Prod.ext h.1 h.2
theorem s8 (ps : List (List Nat)) (x0 y0 : Int) : VabitaNeutral.step ⟨ps⟩ (PyVabita.whole [[8, x0, y0]]) = (⟨appS ps (accS 8 ps [x0] [y0] [])⟩, encS (accS 8 ps [x0] [y0] [])) := by
  have h := step_of (k8 ps x0 y0)
  have e : VabitaNeutral.callOf (PyVabita.whole [[8, x0, y0]]) = some (.halt_ x0 y0) := rfl
  unfold VabitaNeutral.step
  rw [e]
  exact Prod.ext h.1 h.2
theorem s9 (ps : List (List Nat)) (x0 y0 : Int) : VabitaNeutral.step ⟨ps⟩ (PyVabita.whole [[9, x0, y0]]) = (⟨appS ps (accS 9 ps [x0] [y0] [])⟩, encS (accS 9 ps [x0] [y0] [])) := by
  have h := step_of (k9 ps x0 y0)
  have e : VabitaNeutral.callOf (PyVabita.whole [[9, x0, y0]]) = some (.flip x0 y0) := rfl
  unfold VabitaNeutral.step
  rw [e]
  exact Prod.ext h.1 h.2
theorem s10 (ps : List (List Nat)) (x0 x1 x2 : Int) : VabitaNeutral.step ⟨ps⟩ (PyVabita.whole [[10, x0, x1, x2]]) = (⟨appS ps (accS 10 ps [x0, x1, x2] [] [])⟩, encS (accS 10 ps [x0, x1, x2] [] [])) := by
  have h := step_of (k10 ps x0 x1 x2)
  have e : VabitaNeutral.callOf (PyVabita.whole [[10, x0, x1, x2]]) = some (.either x0 x1 x2) := rfl
  unfold VabitaNeutral.step
  rw [e]
  exact Prod.ext h.1 h.2
theorem s11 (ps : List (List Nat)) (x0 x1 x2 : Int) : VabitaNeutral.step ⟨ps⟩ (PyVabita.whole [[11, x0, x1, x2]]) = (⟨appS ps (accS 11 ps [x0, x1, x2] [] [])⟩, encS (accS 11 ps [x0, x1, x2] [] [])) := by
  have h := step_of (k11 ps x0 x1 x2)
  have e : VabitaNeutral.callOf (PyVabita.whole [[11, x0, x1, x2]]) = some (.both x0 x1 x2) := rfl
  unfold VabitaNeutral.step
  rw [e]
  exact Prod.ext h.1 h.2
theorem s12 (ps : List (List Nat)) (x0 x1 x2 : Int) : VabitaNeutral.step ⟨ps⟩ (PyVabita.whole [[12, x0, x1, x2]]) = (⟨appS ps (accS 12 ps [x0, x1, x2] [] [])⟩, encS (accS 12 ps [x0, x1, x2] [] [])) := by
  have h := step_of (k12 ps x0 x1 x2)
  have e : VabitaNeutral.callOf (PyVabita.whole [[12, x0, x1, x2]]) = some (.less x0 x1 x2) := rfl
  unfold VabitaNeutral.step
  rw [e]
  exact Prod.ext h.1 h.2
theorem s13 (ps : List (List Nat)) (x0 x1 x2 : Int) : VabitaNeutral.step ⟨ps⟩ (PyVabita.whole [[13, x0, x1, x2]]) = (⟨appS ps (accS 13 ps [x0, x1, x2] [] [])⟩, encS (accS 13 ps [x0, x1, x2] [] [])) := by
  have h := step_of (k13 ps x0 x1 x2)
  have e : VabitaNeutral.callOf (PyVabita.whole [[13, x0, x1, x2]]) = some (.odd x0 x1 x2) := rfl
  unfold VabitaNeutral.step
  rw [e]
  exact Prod.ext h.1 h.2
theorem s14 (ps : List (List Nat)) (x0 x1 : Int) : VabitaNeutral.step ⟨ps⟩ (PyVabita.whole [[14, x0, x1]]) = (⟨appS ps (accS 14 ps [x0, x1] [] [])⟩, encS (accS 14 ps [x0, x1] [] [])) := by
  have h := step_of (k14 ps x0 x1)
  have e : VabitaNeutral.callOf (PyVabita.whole [[14, x0, x1]]) = some (.other x0 x1) := rfl
  unfold VabitaNeutral.step
  rw [e]
  exact Prod.ext h.1 h.2
theorem s15 (ps : List (List Nat)) (x0 x1 y0 : Int) : VabitaNeutral.step ⟨ps⟩ (PyVabita.whole [[15, x0, x1, y0]]) = (⟨appS ps (accS 15 ps [x0, x1] [y0] [])⟩, encS (accS 15 ps [x0, x1] [y0] [])) := by
  have h := step_of (k15 ps x0 x1 y0)
  have e : VabitaNeutral.callOf (PyVabita.whole [[15, x0, x1, y0]]) = some (.later x0 x1 y0) := rfl
  unfold VabitaNeutral.step
  rw [e]
  exact Prod.ext h.1 h.2
theorem s16 (ps : List (List Nat)) (x0 x1 y0 : Int) : VabitaNeutral.step ⟨ps⟩ (PyVabita.whole [[16, x0, x1, y0]]) = (⟨appS ps (accS 16 ps [x0, x1] [y0] [])⟩, encS (accS 16 ps [x0, x1] [y0] [])) := by
  have h := step_of (k16 ps x0 x1 y0)
  have e : VabitaNeutral.callOf (PyVabita.whole [[16, x0, x1, y0]]) = some (.earlier x0 x1 y0) := rfl
  unfold VabitaNeutral.step
  rw [e]
  exact Prod.ext h.1 h.2
theorem s17 (ps : List (List Nat)) (x0 x1 y0 : Int) : VabitaNeutral.step ⟨ps⟩ (PyVabita.whole [[17, x0, x1, y0]]) = (⟨appS ps (accS 17 ps [x0, x1] [y0] [])⟩, encS (accS 17 ps [x0, x1] [y0] [])) := by
  have h := step_of (k17 ps x0 x1 y0)
  have e : VabitaNeutral.callOf (PyVabita.whole [[17, x0, x1, y0]]) = some (.recent x0 x1 y0) := rfl
  unfold VabitaNeutral.step
  rw [e]
  exact Prod.ext h.1 h.2
theorem s18 (ps : List (List Nat)) (x0 x1 y0 : Int) : VabitaNeutral.step ⟨ps⟩ (PyVabita.whole [[18, x0, x1, y0]]) = (⟨appS ps (accS 18 ps [x0, x1] [y0] [])⟩, encS (accS 18 ps [x0, x1] [y0] [])) := by
  have h := step_of (k18 ps x0 x1 y0)
  have e : VabitaNeutral.callOf (PyVabita.whole [[18, x0, x1, y0]]) = some (.steady x0 x1 y0) := rfl
  unfold VabitaNeutral.step
  rw [e]
  exact Prod.ext h.1 h.2
theorem s19 (ps : List (List Nat)) (x0 x1 y0 : Int) : VabitaNeutral.step ⟨ps⟩ (PyVabita.whole [[19, x0, x1, y0]]) = (⟨appS ps (accS 19 ps [x0, x1] [y0] [])⟩, encS (accS 19 ps [x0, x1] [y0] [])) := by
  have h := step_of (k19 ps x0 x1 y0)
  have e : VabitaNeutral.callOf (PyVabita.whole [[19, x0, x1, y0]]) = some (.soon x0 x1 y0) := rfl
  unfold VabitaNeutral.step
  rw [e]
  exact Prod.ext h.1 h.2
theorem s20 (ps : List (List Nat)) (x0 x1 : Int) : VabitaNeutral.step ⟨ps⟩ (PyVabita.whole [[20, x0, x1]]) = (⟨appS ps (accS 20 ps [x0, x1] [] [])⟩, encS (accS 20 ps [x0, x1] [] [])) := by
  have h := step_of (k20 ps x0 x1)
  have e : VabitaNeutral.callOf (PyVabita.whole [[20, x0, x1]]) = some (.hull x0 x1) := rfl
  unfold VabitaNeutral.step
  rw [e]
  exact Prod.ext h.1 h.2
theorem s21 (ps : List (List Nat)) (x0 x1 : Int) : VabitaNeutral.step ⟨ps⟩ (PyVabita.whole [[21, x0, x1]]) = (⟨appS ps (accS 21 ps [x0, x1] [] [])⟩, encS (accS 21 ps [x0, x1] [] [])) := by
  have h := step_of (k21 ps x0 x1)
  have e : VabitaNeutral.callOf (PyVabita.whole [[21, x0, x1]]) = some (.gaps x0 x1) := rfl
  unfold VabitaNeutral.step
  rw [e]
  exact Prod.ext h.1 h.2
theorem s22 (ps : List (List Nat)) (x0 x1 y0 : Int) : VabitaNeutral.step ⟨ps⟩ (PyVabita.whole [[22, x0, x1, y0]]) = (⟨appS ps (accS 22 ps [x0, x1] [y0] [])⟩, encS (accS 22 ps [x0, x1] [y0] [])) := by
  have h := step_of (k22 ps x0 x1 y0)
  have e : VabitaNeutral.callOf (PyVabita.whole [[22, x0, x1, y0]]) = some (.lasting x0 x1 y0) := rfl
  unfold VabitaNeutral.step
  rw [e]
  exact Prod.ext h.1 h.2
theorem s23 (ps : List (List Nat)) (x0 x1 y0 : Int) : VabitaNeutral.step ⟨ps⟩ (PyVabita.whole [[23, x0, x1, y0]]) = (⟨appS ps (accS 23 ps [x0, x1] [y0] [])⟩, encS (accS 23 ps [x0, x1] [y0] [])) := by
  have h := step_of (k23 ps x0 x1 y0)
  have e : VabitaNeutral.callOf (PyVabita.whole [[23, x0, x1, y0]]) = some (.fill x0 x1 y0) := rfl
  unfold VabitaNeutral.step
  rw [e]
  exact Prod.ext h.1 h.2
theorem s24 (ps : List (List Nat)) (x0 y0 y1 y2 y3 : Int) : VabitaNeutral.step ⟨ps⟩ (PyVabita.whole [[24, x0, y0, y1, y2, y3]]) = (⟨appS ps (accS 24 ps [x0] [y0, y1, y2, y3] [])⟩, encS (accS 24 ps [x0] [y0, y1, y2, y3] [])) := by
  have h := step_of (k24 ps x0 y0 y1 y2 y3)
  have e : VabitaNeutral.callOf (PyVabita.whole [[24, x0, y0, y1, y2, y3]]) = some (.every x0 y0 y1 y2 y3) := rfl
  unfold VabitaNeutral.step
  rw [e]
  exact Prod.ext h.1 h.2
theorem s25 (ps : List (List Nat)) (x0 y0 : Int) : VabitaNeutral.step ⟨ps⟩ (PyVabita.whole [[25, x0, y0]]) = (⟨appS ps (accS 25 ps [x0] [y0] [])⟩, encS (accS 25 ps [x0] [y0] [])) := by
  have h := step_of (k25 ps x0 y0)
  have e : VabitaNeutral.callOf (PyVabita.whole [[25, x0, y0]]) = some (.has x0 y0) := rfl
  unfold VabitaNeutral.step
  rw [e]
  exact Prod.ext h.1 h.2
theorem s26 (ps : List (List Nat)) (x0 : Int) : VabitaNeutral.step ⟨ps⟩ (PyVabita.whole [[26, x0]]) = (⟨appS ps (accS 26 ps [x0] [] [])⟩, encS (accS 26 ps [x0] [] [])) := by
  have h := step_of (k26 ps x0)
  have e : VabitaNeutral.callOf (PyVabita.whole [[26, x0]]) = some (.first x0) := rfl
  unfold VabitaNeutral.step
  rw [e]
  exact Prod.ext h.1 h.2
theorem s27 (ps : List (List Nat)) (x0 : Int) : VabitaNeutral.step ⟨ps⟩ (PyVabita.whole [[27, x0]]) = (⟨appS ps (accS 27 ps [x0] [] [])⟩, encS (accS 27 ps [x0] [] [])) := by
  have h := step_of (k27 ps x0)
  have e : VabitaNeutral.callOf (PyVabita.whole [[27, x0]]) = some (.last x0) := rfl
  unfold VabitaNeutral.step
  rw [e]
  exact Prod.ext h.1 h.2
theorem s28 (ps : List (List Nat)) (x0 : Int) : VabitaNeutral.step ⟨ps⟩ (PyVabita.whole [[28, x0]]) = (⟨appS ps (accS 28 ps [x0] [] [])⟩, encS (accS 28 ps [x0] [] [])) := by
  have h := step_of (k28 ps x0)
  have e : VabitaNeutral.callOf (PyVabita.whole [[28, x0]]) = some (.size x0) := rfl
  unfold VabitaNeutral.step
  rw [e]
  exact Prod.ext h.1 h.2
theorem s29 (ps : List (List Nat)) (x0 y0 : Int) : VabitaNeutral.step ⟨ps⟩ (PyVabita.whole [[29, x0, y0]]) = (⟨appS ps (accS 29 ps [x0] [y0] [])⟩, encS (accS 29 ps [x0] [y0] [])) := by
  have h := step_of (k29 ps x0 y0)
  have e : VabitaNeutral.callOf (PyVabita.whole [[29, x0, y0]]) = some (.next x0 y0) := rfl
  unfold VabitaNeutral.step
  rw [e]
  exact Prod.ext h.1 h.2
theorem s30 (ps : List (List Nat)) (x0 y0 : Int) : VabitaNeutral.step ⟨ps⟩ (PyVabita.whole [[30, x0, y0]]) = (⟨appS ps (accS 30 ps [x0] [y0] [])⟩, encS (accS 30 ps [x0] [y0] [])) := by
  have h := step_of (k30 ps x0 y0)
  have e : VabitaNeutral.callOf (PyVabita.whole [[30, x0, y0]]) = some (.prev x0 y0) := rfl
  unfold VabitaNeutral.step
  rw [e]
  exact Prod.ext h.1 h.2
theorem s31 (ps : List (List Nat)) (x0 y0 : Int) : VabitaNeutral.step ⟨ps⟩ (PyVabita.whole [[31, x0, y0]]) = (⟨appS ps (accS 31 ps [x0] [y0] [])⟩, encS (accS 31 ps [x0] [y0] [])) := by
  have h := step_of (k31 ps x0 y0)
  have e : VabitaNeutral.callOf (PyVabita.whole [[31, x0, y0]]) = some (.nth x0 y0) := rfl
  unfold VabitaNeutral.step
  rw [e]
  exact Prod.ext h.1 h.2
theorem s32 (ps : List (List Nat)) (x0 y0 : Int) : VabitaNeutral.step ⟨ps⟩ (PyVabita.whole [[32, x0, y0]]) = (⟨appS ps (accS 32 ps [x0] [y0] [])⟩, encS (accS 32 ps [x0] [y0] [])) := by
  have h := step_of (k32 ps x0 y0)
  have e : VabitaNeutral.callOf (PyVabita.whole [[32, x0, y0]]) = some (.rank x0 y0) := rfl
  unfold VabitaNeutral.step
  rw [e]
  exact Prod.ext h.1 h.2
theorem s33 (ps : List (List Nat)) (x0 : Int) : VabitaNeutral.step ⟨ps⟩ (PyVabita.whole [[33, x0]]) = (⟨appS ps (accS 33 ps [x0] [] [])⟩, encS (accS 33 ps [x0] [] [])) := by
  have h := step_of (k33 ps x0)
  have e : VabitaNeutral.callOf (PyVabita.whole [[33, x0]]) = some (.pieces x0) := rfl
  unfold VabitaNeutral.step
  rw [e]
  exact Prod.ext h.1 h.2
theorem s34 (ps : List (List Nat)) (x0 y0 : Int) : VabitaNeutral.step ⟨ps⟩ (PyVabita.whole [[34, x0, y0]]) = (⟨appS ps (accS 34 ps [x0] [y0] [])⟩, encS (accS 34 ps [x0] [y0] [])) := by
  have h := step_of (k34 ps x0 y0)
  have e : VabitaNeutral.callOf (PyVabita.whole [[34, x0, y0]]) = some (.piece x0 y0) := rfl
  unfold VabitaNeutral.step
  rw [e]
  exact Prod.ext h.1 h.2
theorem s35 (ps : List (List Nat)) (x0 x1 : Int) : VabitaNeutral.step ⟨ps⟩ (PyVabita.whole [[35, x0, x1]]) = (⟨appS ps (accS 35 ps [x0, x1] [] [])⟩, encS (accS 35 ps [x0, x1] [] [])) := by
  have h := step_of (k35 ps x0 x1)
  have e : VabitaNeutral.callOf (PyVabita.whole [[35, x0, x1]]) = some (.relate x0 x1) := rfl
  unfold VabitaNeutral.step
  rw [e]
  exact Prod.ext h.1 h.2
theorem s36 (ps : List (List Nat)) (x0 x1 : Int) : VabitaNeutral.step ⟨ps⟩ (PyVabita.whole [[36, x0, x1]]) = (⟨appS ps (accS 36 ps [x0, x1] [] [])⟩, encS (accS 36 ps [x0, x1] [] [])) := by
  have h := step_of (k36 ps x0 x1)
  have e : VabitaNeutral.callOf (PyVabita.whole [[36, x0, x1]]) = some (.allen x0 x1) := rfl
  unfold VabitaNeutral.step
  rw [e]
  exact Prod.ext h.1 h.2
theorem step_run {ps : List (List Nat)} {k m f : Nat} (h37 : k < 37) (hs : shp[k]? = some (m, f)) {is ns row : List Int} (hi : is.length = m) (hn : ns.length = f) (hr : k ≠ 1 → k ≠ 3 → row = []) (hb : k = 3 → NeutralIO.bytes row = true) :
    VabitaNeutral.step ⟨ps⟩ (PyVabita.whole (((k : Int) :: (is ++ ns)) :: (if k = 1 ∨ k = 3 then [row] else []))) = (⟨appS ps (accS k ps is ns row)⟩, encS (accS k ps is ns row)) := by
  have hk : k = 0 ∨ k = 1 ∨ k = 2 ∨ k = 3 ∨ k = 4 ∨ k = 5 ∨ k = 6 ∨ k = 7 ∨ k = 8 ∨ k = 9 ∨ k = 10 ∨ k = 11 ∨ k = 12 ∨ k = 13 ∨ k = 14 ∨ k = 15 ∨ k = 16 ∨ k = 17 ∨ k = 18 ∨ k = 19 ∨ k = 20 ∨ k = 21 ∨ k = 22 ∨ k = 23 ∨ k = 24 ∨ k = 25 ∨ k = 26 ∨ k = 27 ∨ k = 28 ∨ k = 29 ∨ k = 30 ∨ k = 31 ∨ k = 32 ∨ k = 33 ∨ k = 34 ∨ k = 35 ∨ k = 36 := by omega
  rcases hk with rfl | rfl | rfl | rfl | rfl | rfl | rfl | rfl | rfl | rfl | rfl | rfl | rfl | rfl | rfl | rfl | rfl | rfl | rfl | rfl | rfl | rfl | rfl | rfl | rfl | rfl | rfl | rfl | rfl | rfl | rfl | rfl | rfl | rfl | rfl | rfl | rfl
  · cases hs
    have e := hr (by decide) (by decide)
    subst e
    exact match is, ns, hi, hn with | [x0], [], _, _ => s0 ps x0
  · cases hs
    exact match is, ns, hi, hn with | [x0], [], _, _ => s1 ps x0 row
  · cases hs
    have e := hr (by decide) (by decide)
    subst e
    exact match is, ns, hi, hn with | [x0], [], _, _ => s2 ps x0
  · cases hs
    exact match is, ns, hi, hn with | [x0], [], _, _ => s3 ps x0 row (hb rfl)
  · cases hs
    have e := hr (by decide) (by decide)
    subst e
    exact match is, ns, hi, hn with | [x0], [], _, _ => s4 ps x0
  · cases hs
    have e := hr (by decide) (by decide)
    subst e
    exact match is, ns, hi, hn with | [x0], [y0, y1], _, _ => s5 ps x0 y0 y1
  · cases hs
    have e := hr (by decide) (by decide)
    subst e
    exact match is, ns, hi, hn with | [x0], [y0], _, _ => s6 ps x0 y0
  · cases hs
    have e := hr (by decide) (by decide)
    subst e
    exact match is, ns, hi, hn with | [x0], [y0, y1], _, _ => s7 ps x0 y0 y1
  · cases hs
    have e := hr (by decide) (by decide)
    subst e
    exact match is, ns, hi, hn with | [x0], [y0], _, _ => s8 ps x0 y0
  · cases hs
    have e := hr (by decide) (by decide)
    subst e
    exact match is, ns, hi, hn with | [x0], [y0], _, _ => s9 ps x0 y0
  · cases hs
    have e := hr (by decide) (by decide)
    subst e
    exact match is, ns, hi, hn with | [x0, x1, x2], [], _, _ => s10 ps x0 x1 x2
  · cases hs
    have e := hr (by decide) (by decide)
    subst e
    exact match is, ns, hi, hn with | [x0, x1, x2], [], _, _ => s11 ps x0 x1 x2
  · cases hs
    have e := hr (by decide) (by decide)
    subst e
    exact match is, ns, hi, hn with | [x0, x1, x2], [], _, _ => s12 ps x0 x1 x2
  · cases hs
    have e := hr (by decide) (by decide)
    subst e
    exact match is, ns, hi, hn with | [x0, x1, x2], [], _, _ => s13 ps x0 x1 x2
  · cases hs
    have e := hr (by decide) (by decide)
    subst e
    exact match is, ns, hi, hn with | [x0, x1], [], _, _ => s14 ps x0 x1
  · cases hs
    have e := hr (by decide) (by decide)
    subst e
    exact match is, ns, hi, hn with | [x0, x1], [y0], _, _ => s15 ps x0 x1 y0
  · cases hs
    have e := hr (by decide) (by decide)
    subst e
    exact match is, ns, hi, hn with | [x0, x1], [y0], _, _ => s16 ps x0 x1 y0
  · cases hs
    have e := hr (by decide) (by decide)
    subst e
    exact match is, ns, hi, hn with | [x0, x1], [y0], _, _ => s17 ps x0 x1 y0
  · cases hs
    have e := hr (by decide) (by decide)
    subst e
    exact match is, ns, hi, hn with | [x0, x1], [y0], _, _ => s18 ps x0 x1 y0
  · cases hs
    have e := hr (by decide) (by decide)
    subst e
    exact match is, ns, hi, hn with | [x0, x1], [y0], _, _ => s19 ps x0 x1 y0
  · cases hs
    have e := hr (by decide) (by decide)
    subst e
    exact match is, ns, hi, hn with | [x0, x1], [], _, _ => s20 ps x0 x1
  · cases hs
    have e := hr (by decide) (by decide)
    subst e
    exact match is, ns, hi, hn with | [x0, x1], [], _, _ => s21 ps x0 x1
  · cases hs
    have e := hr (by decide) (by decide)
    subst e
    exact match is, ns, hi, hn with | [x0, x1], [y0], _, _ => s22 ps x0 x1 y0
  · cases hs
    have e := hr (by decide) (by decide)
    subst e
    exact match is, ns, hi, hn with | [x0, x1], [y0], _, _ => s23 ps x0 x1 y0
  · cases hs
    have e := hr (by decide) (by decide)
    subst e
    exact match is, ns, hi, hn with | [x0], [y0, y1, y2, y3], _, _ => s24 ps x0 y0 y1 y2 y3
  · cases hs
    have e := hr (by decide) (by decide)
    subst e
    exact match is, ns, hi, hn with | [x0], [y0], _, _ => s25 ps x0 y0
  · cases hs
    have e := hr (by decide) (by decide)
    subst e
    exact match is, ns, hi, hn with | [x0], [], _, _ => s26 ps x0
  · cases hs
    have e := hr (by decide) (by decide)
    subst e
    exact match is, ns, hi, hn with | [x0], [], _, _ => s27 ps x0
  · cases hs
    have e := hr (by decide) (by decide)
    subst e
    exact match is, ns, hi, hn with | [x0], [], _, _ => s28 ps x0
  · cases hs
    have e := hr (by decide) (by decide)
    subst e
    exact match is, ns, hi, hn with | [x0], [y0], _, _ => s29 ps x0 y0
  · cases hs
    have e := hr (by decide) (by decide)
    subst e
    exact match is, ns, hi, hn with | [x0], [y0], _, _ => s30 ps x0 y0
  · cases hs
    have e := hr (by decide) (by decide)
    subst e
    exact match is, ns, hi, hn with | [x0], [y0], _, _ => s31 ps x0 y0
  · cases hs
    have e := hr (by decide) (by decide)
    subst e
    exact match is, ns, hi, hn with | [x0], [y0], _, _ => s32 ps x0 y0
  · cases hs
    have e := hr (by decide) (by decide)
    subst e
    exact match is, ns, hi, hn with | [x0], [], _, _ => s33 ps x0
  · cases hs
    have e := hr (by decide) (by decide)
    subst e
    exact match is, ns, hi, hn with | [x0], [y0], _, _ => s34 ps x0 y0
  · cases hs
    have e := hr (by decide) (by decide)
    subst e
    exact match is, ns, hi, hn with | [x0, x1], [], _, _ => s35 ps x0 x1
  · cases hs
    have e := hr (by decide) (by decide)
    subst e
    exact match is, ns, hi, hn with | [x0, x1], [], _, _ => s36 ps x0 x1
theorem ask_len {k : Nat} {qs : List (List Nat)} {ns l : List Nat} (hq : ∀ q ∈ qs, OkS q) (h : askS k qs ns = .ok l) : l.length ≤ 3001 := by
  have h0 : OkS (qs.getD 0 []) := by
    rw [List.getD_eq_getElem?_getD]
    cases e : qs[0]? with
    | none => exact ⟨List.Pairwise.nil, fun b hb => by simp at hb, by simp⟩
    | some q => exact hq q (List.mem_of_getElem? e)
  have fl : ∀ {x : Option Nat} {l : List Nat}, foundS x = .ok l → l.length ≤ 3001 := fun {x l} e => by
    unfold foundS at e
    split at e
    · cases e; simp
    · cases e
  have pl : ∀ {x : Option Piece} {l : List Nat}, pieceS x = .ok l → l.length ≤ 3001 := fun {x l} e => by
    unfold pieceS at e
    split at e
    · cases e
    · cases e; simp
    · cases e; simp
  unfold askS at h
  split at h
  · cases h
    have := h0.len
    rw [List.length_cons]
    omega
  split at h
  · cases h
    have := shown_len h0
    rw [List.length_cons]
    omega
  split at h
  · exact fl h
  split at h
  · unfold lastS at h
    split at h
    · cases h
    · exact fl h
  split at h
  · unfold sizeS at h
    split at h
    · cases h
    · cases h; simp
  split at h
  · cases h; simp
  split at h
  · unfold twoS at h
    split at h
    · cases h; simp
    · exact fl h
  unfold withS at h
  split at h
  · cases h; simp
  split at h
  · exact fl h
  split at h
  · exact fl h
  split at h
  · exact fl h
  split at h
  · cases h; simp
  · exact pl h
theorem enc_len {k : Nat} {ps : List (List Nat)} {is ns row : List Int} (hq : ∀ q ∈ ps, OkS q) : (encS (accS k ps is ns row)).length ≤ 3001 := by
  unfold accS
  split
  · split
    · unfold doS
      split
      · split
        · next e =>
          show (up _).length ≤ 3001
          rw [up_len]
          refine ask_len (fun q hq2 => ?_) e
          obtain ⟨j, _, rfl⟩ := List.mem_map.mp hq2
          rw [List.getD_eq_getElem?_getD]
          cases e3 : ps[j.toNat]? with
          | none => exact ⟨List.Pairwise.nil, fun b hb => by simp at hb, by simp⟩
          | some q => exact hq q (List.mem_of_getElem? e3)
        · simp [encS]
      · split
        · simp [encS]
        · split
          · simp [encS]
          · simp [encS, up]
    · simp [encS]
  · simp [encS]
theorem drop_next {l : List Int} {a : Nat} {p : Int} {r : List Int} (h : l.drop a = p :: r) : l[a]? = some p ∧ r = l.drop (a + 1) ∧ a < l.length := by
  have hlt : a < l.length := by
    by_cases c : a < l.length
    · exact c
    · rw [List.drop_of_length_le (by omega)] at h
      cases h
  have e := List.drop_eq_getElem_cons hlt
  rw [h] at e
  injection e with e1 e2
  exact ⟨by rw [List.getElem?_eq_getElem hlt, e1], e2, hlt⟩
theorem run_main (l : List Int) : ∀ (fu at_ : Nat) (cs : List (List (List Int))) (ps : List (List Nat)), PyFlat.calls PyVabita.shape fu (l.drop at_) = some cs → at_ ≤ l.length → (∀ c ∈ cs, VabitaNeutral.asked1 (PyVabita.whole c) = true) → (∀ p ∈ ps, OkS p) →
    Run l at_ ps (PyFlat.told (PyFlat.played VabitaNeutral.step ⟨ps⟩ (cs.map PyVabita.whole))) ∧ (PyFlat.told (PyFlat.played VabitaNeutral.step ⟨ps⟩ (cs.map PyVabita.whole))).length ≤ 3002 * cs.length := by
  intro fu
  induction fu with
  | zero =>
    intro at_ cs ps h hat ha ho
    cases e : l.drop at_ with
    | nil =>
      rw [e] at h
      cases h
      have : l.length ≤ at_ := List.drop_eq_nil_iff.mp e
      have ee : at_ = l.length := by omega
      subst ee
      exact ⟨Run.done, by simp [PyFlat.told, PyFlat.played]⟩
    | cons p r => rw [e] at h; cases h
  | succ fu ih =>
    intro at_ cs ps h hat ha ho
    cases e : l.drop at_ with
    | nil =>
      rw [e] at h
      cases h
      have : l.length ≤ at_ := List.drop_eq_nil_iff.mp e
      have ee : at_ = l.length := by omega
      subst ee
      exact ⟨Run.done, by simp [PyFlat.told, PyFlat.played]⟩
    | cons p r =>
      rw [e] at h
      obtain ⟨hp, hr, hlt⟩ := drop_next e
      have lr : r.length = l.length - (at_ + 1) := by rw [hr, List.length_drop]
      simp only [PyFlat.calls] at h
      cases hc : PyFlat.call PyVabita.shape (p :: r) with
      | none => rw [hc] at h; cases h
      | some ct =>
        obtain ⟨c, t⟩ := ct
        rw [hc] at h
        simp only at h
        cases h2 : PyFlat.calls PyVabita.shape fu t with
        | none => rw [h2] at h; cases h
        | some cs' =>
          rw [h2] at h
          cases h
          simp only [PyFlat.call] at hc
          cases hsh : PyVabita.shape p with
          | none => rw [hsh] at hc; cases hc
          | some nk =>
            obtain ⟨n, kr⟩ := nk
            rw [hsh] at hc
            simp only at hc
            obtain ⟨k, m, f, rfl, h37, hs, rfl, rfl⟩ := shape_inv hsh
            by_cases hrl : r.length < m + f
            · rw [if_pos hrl] at hc; cases hc
            · rw [if_neg hrl] at hc
              have hi : ((l.drop (at_ + 1)).take m).length = m := by rw [← hr, List.length_take]; omega
              have hdm : l.drop (at_ + 1 + m) = r.drop m := by rw [hr, List.drop_drop]
              have hn : ((l.drop (at_ + 1 + m)).take f).length = f := by rw [hdm, List.length_take, List.length_drop]; omega
              have htake : r.take (m + f) = (l.drop (at_ + 1)).take m ++ (l.drop (at_ + 1 + m)).take f := by rw [hdm, ← hr, List.take_add]
              -- the row and what is behind it
              have key : ∃ row at2, c = (((k : Nat) : Int) :: r.take (m + f)) :: (if k = 1 ∨ k = 3 then [row] else []) ∧ (k ≠ 1 → k ≠ 3 → row = []) ∧ RowAt l k (at_ + 1 + m + f) row at2 ∧ t = l.drop at2 ∧ at2 ≤ l.length := by
                by_cases hk : k = 1 ∨ k = 3
                · simp only [if_pos hk] at hc ⊢
                  simp only [PyFlat.rows] at hc
                  have hdd : r.drop (m + f) = l.drop (at_ + 1 + m + f) := by rw [hr, List.drop_drop]; congr 1; omega
                  cases hrd : r.drop (m + f) with
                  | nil => rw [hrd] at hc; simp [PyFlat.row] at hc
                  | cons q r' =>
                    rw [hrd] at hc
                    obtain ⟨hq1, hq2, hq3⟩ := drop_next (hdd.symm.trans hrd)
                    by_cases cq : 0 ≤ q ∧ q.toNat ≤ r'.length
                    · simp only [PyFlat.row, if_pos cq] at hc
                      cases hc
                      have lr' : r'.length = l.length - (at_ + 1 + m + f + 1) := by rw [hq2, List.length_drop]
                      refine ⟨r'.take q.toNat, at_ + 1 + m + f + 1 + q.toNat, rfl, fun h1 h3 => by rcases hk with h | h <;> contradiction, .inr ⟨hk, q.toNat, ?_, by omega, by rw [hq2], rfl⟩, ?_, by omega⟩
                      · rw [hq1]
                        congr 1
                        omega
                      · rw [hq2, List.drop_drop]
                    · simp only [PyFlat.row, if_neg cq] at hc
                      cases hc
                · simp only [if_neg hk] at hc ⊢
                  simp only [PyFlat.rows] at hc
                  cases hc
                  refine ⟨[], at_ + 1 + m + f, rfl, fun _ _ => rfl, .inl ⟨⟨fun h => hk (.inl h), fun h => hk (.inr h)⟩, rfl, rfl⟩, ?_, by omega⟩
                  rw [hr, List.drop_drop]
                  congr 1
                  omega
              obtain ⟨row, at2, rfl, hrow0, hrow, rfl, h2l⟩ := key
              rw [htake] at ha ⊢
              have ha1 := ha _ (List.mem_cons_self ..)
              have facts : row.length ≤ 2500 ∧ (k = 3 → ∀ n ∈ row, 0 ≤ n ∧ n < 256) := by
                by_cases k1 : k = 1
                · subst k1
                  cases hs
                  refine ⟨?_, fun h => by cases h⟩
                  generalize (l.drop (at_ + 1)).take 1 = is at ha1 hi
                  generalize (l.drop (at_ + 1 + 1)).take 0 = ns at ha1 hn
                  match is, ns, hi, hn with
                  | [x0], [], _, _ =>
                    have hq : (VabitaNeutral.whole60 x0 && (row.all (fun (z : Int) => VabitaNeutral.whole60 z) && decide (row.length ≤ 200))) = true := ha1
                    rw [Bool.and_eq_true, Bool.and_eq_true, decide_eq_true_iff] at hq
                    omega
                · by_cases k3 : k = 3
                  · subst k3
                    cases hs
                    generalize (l.drop (at_ + 1)).take 1 = is at ha1 hi
                    generalize (l.drop (at_ + 1 + 1)).take 0 = ns at ha1 hn
                    match is, ns, hi, hn with
                    | [x0], [], _, _ =>
                      have hq : (VabitaNeutral.whole60 x0 && (row.all (fun (z : Int) => VabitaNeutral.natural z 8) && decide (row.length ≤ 2000))) = true := ha1
                      rw [Bool.and_eq_true, Bool.and_eq_true, decide_eq_true_iff] at hq
                      refine ⟨by omega, fun _ n hn => ?_⟩
                      have := List.all_eq_true.mp hq.2.1 n hn
                      unfold VabitaNeutral.natural at this
                      rw [Bool.and_eq_true, decide_eq_true_iff, decide_eq_true_iff] at this
                      exact ⟨this.1, this.2⟩
                  · rw [hrow0 k1 k3]
                    exact ⟨by simp, fun h => absurd h k3⟩
              have hb : k = 3 → NeutralIO.bytes row = true := fun h => by
                unfold NeutralIO.bytes
                rw [List.all_eq_true]
                intro n hn
                have := facts.2 h n hn
                rw [Bool.and_eq_true, decide_eq_true_iff, decide_eq_true_iff]
                omega
              have st := step_run (ps := ps) h37 hs hi hn hrow0 hb
              obtain ⟨g1, g2⟩ := ih at2 cs' (appS ps (accS k ps ((l.drop (at_ + 1)).take m) ((l.drop (at_ + 1 + m)).take f) row)) h2 h2l (fun c hc => ha c (List.mem_cons_of_mem _ hc)) (app_ok ho)
              have et : PyFlat.told (PyFlat.played VabitaNeutral.step ⟨ps⟩ (List.map PyVabita.whole (((((k : Nat) : Int) :: ((l.drop (at_ + 1)).take m ++ (l.drop (at_ + 1 + m)).take f)) :: (if k = 1 ∨ k = 3 then [row] else [])) :: cs'))) =
                  ((encS (accS k ps ((l.drop (at_ + 1)).take m) ((l.drop (at_ + 1 + m)).take f) row)).length : Int) :: (encS (accS k ps ((l.drop (at_ + 1)).take m) ((l.drop (at_ + 1 + m)).take f) row) ++ PyFlat.told (PyFlat.played VabitaNeutral.step ⟨appS ps (accS k ps ((l.drop (at_ + 1)).take m) ((l.drop (at_ + 1 + m)).take f) row)⟩ (cs'.map PyVabita.whole))) := by
                rw [List.map_cons]
                simp only [PyFlat.played, st]
                simp [PyFlat.told]
              rw [et]
              refine ⟨Run.step hp h37 hs (by omega) hrow facts.1 facts.2 g1, ?_⟩
              have := enc_len (k := k) (is := (l.drop (at_ + 1)).take m) (ns := (l.drop (at_ + 1 + m)).take f) (row := row) ho
              rw [List.length_cons, List.length_append, List.length_cons]
              omega
theorem run_of {l : List Int} (h : PyVabita.answers_asked l = true) (hl : l.length ≤ 16000) : Run l 0 (List.replicate 8 []) (PyVabita.answers l) ∧ (PyVabita.answers l).length ≤ 10000000 := by
  unfold PyVabita.answers_asked PyVabita.calls at h
  unfold PyVabita.answers PyVabita.calls
  cases e : PyFlat.calls PyVabita.shape l.length l with
  | none => rw [e] at h; cases h
  | some cs =>
    rw [e] at h
    simp only at h ⊢
    rw [Bool.and_eq_true] at h
    have h1 := of_decide_eq_true h.1
    have h2 := h.2
    unfold VabitaNeutral.asked at h2
    rw [Bool.and_eq_true] at h2
    obtain ⟨g1, g2⟩ := run_main l l.length 0 cs (List.replicate 8 []) (by rw [List.drop_zero]; exact e) (Nat.zero_le _) (fun c hc => List.all_eq_true.mp h2.1 _ (List.mem_map.mpr ⟨c, hc, rfl⟩)) (fun p hp => by
      rw [List.eq_of_mem_replicate hp]
      exact ⟨List.Pairwise.nil, fun b hb => by simp at hb, by simp⟩)
    refine ⟨g1, Nat.le_trans g2 ?_⟩
    rw [List.length_map] at h1
    omega
end Ms
end

/-! text E1 -/
section
set_option Elab.async false
set_option linter.all false
set_option maxRecDepth 100000
set_option maxHeartbeats 2000000
/-! the end of a Spec row whose def makes a lambda in a def it calls: a table of code objects grows -/
namespace Ms
open PySem PySem.Spec PyProof.Rows PySem.W L2 LamX
theorem spec_callT {P : Program} {w : World} {K : PySem.W.Frag} {mg mb : Str → Option Value} {k : Nat} {fa c J : Addr} {fd : FuncData} {x : Str} {sp : Sp} {s₁ : Shared} {vals : List Value} {l : List Int} {R : PySem.W.WRecords} {cl : Str → Option Addr} {d0 : WData}
    (KX : K.In s₁.heap) (hns : s₁.heap.Ns mainGlobals mg) (hb : s₁.heap.Ns builtinsNs mb) (hbb : ∀ x : Str, x ≠ "__name__" → mb x = bootBuiltins x) (hlim : s₁.heap.NoLimit) (hg : s₁.gens = #[])
    (hT : s₁.heap.get? J = some { cls := .none, data := .fields #[] }) (nT : K.lookup J = none) (C : PySem.W.CodeHd s₁.heap c J)
    (hbm : ∃ (bm : Addr) (ob : Obj), mg "__builtins__" = some (.ref bm) ∧ bm ≠ builtinsNs ∧ s₁.heap.get? bm = some ob ∧ ob.cls = .type "module" ∧ ob.dict = some builtinsNs ∧ ob.data = .plain)
    (hwl : WellAll w.params s₁.heap vals [.list (l.map WData.int)]) (hpl : plWs [.list (l.map WData.int)] = true) (hwt : ∀ d ∈ [WData.list (l.map WData.int)], d.weight ≤ 1048576) (hr : Room k callerA)
    (F : ∀ base : Heap, K.In base → base.Ns mainGlobals mg → TabB base mg c J → FnOk P w K mg base CX0 k fa fd [x] sp) (hbind : ∀ (s : Shared) (us : List Value), us.length = 1 → BindsTo s fd ⟨us, []⟩ ([x].zip us))
    (hsp : ∀ (H : Hp) (a : Addr), H J = some (.tbl #[]) → ArgL K H a (l.map V.int) → sp [.ref a] H (fun v H' => Dw K H' v d0) fun _ _ _ => False) :
    codeAny (model P w) callerA (.call (.ref fa) ⟨vals, []⟩) (fun r s' => ∃ u as, r = .ok (.ret u) ∧ ReadsW R cl s'.heap u d0 as ∧ OldK s₁.heap s'.heap ∧ s'.os = s₁.os ∧ AllBare s'.gens) s₁ := by
  obtain ⟨A, ho, ar⟩ := area_all _ vals hwl hpl hwt
  have hO : OnlyF (argH K s₁.heap A) := argH_only ar
  have hok : HOk P w (argH K s₁.heap A) s₁.heap := argH_ok ar
  have hS := dw_all KX ar _ vals hwl hpl ho
  have hV := vals_toV ho
  have hK : ∀ b u, argH K s₁.heap A b = some u → K.lookup b = none := fun b u q => (argH_is ar q).1
  have isSeq : ∀ {b : Addr} {o : Obj}, s₁.heap.get? b = some o → (∀ vs n, o.data ≠ .seq vs n) → argH K s₁.heap A b = none := fun {b o} e d => by
    cases q : argH K s₁.heap A b with
    | none => rfl
    | some u =>
      obtain ⟨_, vs, _, _, ⟨e2, _⟩ | ⟨e2, _⟩⟩ := argH_is ar q
      · rw [e2] at e
        cases e
        exact (d _ _ rfl).elim
      · rw [e2] at e
        cases e
        exact (d _ _ rfl).elim
  have hJ : argH K s₁.heap A J = none := isSeq hT fun vs n z => by cases z
  have form : ∀ b u, argH K s₁.heap A b = some u → ∃ o xs, u = .frz o (.lst xs) ∨ u = .frz o (.tup xs) := fun b u q => by
    obtain ⟨_, vs, _, _, ⟨_, e⟩ | ⟨_, e⟩⟩ := argH_is ar q
    · exact ⟨_, _, .inl e⟩
    · exact ⟨_, _, .inr e⟩
  generalize argH K s₁.heap A = H0 at hO hok hS hK isSeq hJ form
  -- the heap with the table
  have Hd : ∃ H : Hp, H J = some (.tbl #[]) ∧ (∀ b, b ≠ J → H b = H0 b) := ⟨fun b => if b = J then some (.tbl #[]) else H0 b, if_pos rfl, fun b n => if_neg n⟩
  obtain ⟨H, HJ, Hn⟩ := Hd
  have from0 : ∀ {b : Addr} {u : HO}, H0 b = some u → H b = some u := fun {b u} e => by
    rw [Hn b fun z => by rw [z, hJ] at e; cases e]
    exact e
  obtain ⟨a, ea, hA⟩ : ∃ a, vals.map toV = [V.ref a] ∧ ArgL K H a (l.map V.int) := by
    generalize vals.map toV = xs at hS
    cases hS with
    | cons h1 h2 =>
      cases h2
      cases h1 with
      | lst hs ha =>
        have e := L2.ints_dw l _ ha
        subst e
        refine ⟨_, rfl, ?_⟩
        rcases hs with hs | hs
        · rcases hs with hs | ⟨o, hs⟩
          · rcases hO _ with z | ⟨o, u, z⟩
            · rw [z] at hs; cases hs
            · rw [z] at hs; cases hs
          · exact .inl ⟨o, from0 hs⟩
        · exact .inr hs
  have hok2 : HOk P w H s₁.heap := fun b u q => by
    by_cases hb : b = J
    · subst hb
      rw [HJ] at q
      cases q
      exact hT
    · rw [Hn b hb] at q
      have z := hok b u q
      obtain ⟨o, xs, rfl | rfl⟩ := form b u q
      · exact z
      · exact z
  have base_of : ∀ {b : Addr} {o : Obj}, s₁.heap.get? b = some o → H b = none → (hidT s₁.heap H).get? b = some o := fun e n => hidT_get e n
  have noD : ∀ {b : Addr} {o : Obj}, s₁.heap.get? b = some o → (∀ vs n, o.data ≠ .seq vs n) → o.data ≠ .fields #[] → H b = none := fun {b o} e h1 h2 => by
    rw [Hn b fun z => by rw [z, hT] at e; cases e; exact h2 rfl]
    exact isSeq e h1
  have noA : ∀ {b : Addr} {o : Obj} {es : Array DictEntry} {ep : Nat}, s₁.heap.get? b = some o → o.data = .dict es ep → H b = none := fun {b o es ep} e d => by
    refine noD e (fun vs n z => ?_) fun z => ?_
    · rw [d] at z
      cases z
    · rw [d] at z
      cases z
  have nsK : ∀ {b : Addr} {m : Str → Option Value}, s₁.heap.Ns b m → (hidT s₁.heap H).Ns b m := fun {b m} ⟨o, es, ep, e, d, r⟩ => ⟨o, es, ep, base_of e (noA e d), d, r⟩
  have hKb : K.In (hidT s₁.heap H) := fun b o e => base_of (KX b o e) (by
    rw [Hn b fun z => by rw [z, nT] at e; cases e]
    cases q : H0 b with
    | none => rfl
    | some u => rw [hK b u q] at e; cases e)
  have hM : L2.Mod K mg (hidT s₁.heap H) := ⟨hKb, nsK hns, ⟨mb, nsK hb, hbb⟩, let ⟨mc, h1, h2⟩ := hlim; ⟨mc, nsK h1, h2⟩⟩
  have TB : TabB (hidT s₁.heap H) mg c J := by
    refine ⟨?_, ?_, fun z => ?_⟩
    · obtain ⟨o, us, file, tf, flags, tg, inF, text, tt, e1, r1, r2, r3, r4, r5, r6, r7, r8, hne⟩ := C
      refine ⟨o, us, file, tf, flags, tg, inF, text, tt, base_of e1 (noD e1 (fun vs n z => ?_) fun z => ?_), r1, r2, r3, r4, r5, r6, r7, r8, hne⟩
      · rw [r2] at z
        cases z
      · rw [r2] at z
        cases z
        simp at r3
    · obtain ⟨bm, ob, b1, b2, b3, b4, b5, b6⟩ := hbm
      have nG : bm ≠ mainGlobals := fun q => by
        obtain ⟨o, es, ep, e, hd, _⟩ := hns
        rw [q, e] at b3
        cases b3
        rw [hd] at b6
        cases b6
      have nP : bm ≠ J := fun q => by
        rw [q, hT] at b3
        cases b3
        cases b6
      refine ⟨bm, ob, b1, b2, nG, nP, base_of b3 (noD b3 (fun vs n z => ?_) fun z => ?_), b4, b5, b6⟩
      · rw [b6] at z
        cases z
      · rw [b6] at z
        cases z
    · obtain ⟨o, es, ep, e, hd, _⟩ := hns
      rw [z, hT] at e
      cases e
      cases hd
  have e0 : Env0 P w K mg (hidT s₁.heap H) callerA [] s₁ H := ⟨rfl, hM, fun b o e => of_hidT e, Nat.le_of_eq (hidT_size _ _), trivial, fun b hb => absurd (show b ∈ ([] : List Addr) from hb) (by simp), hok2, .of_eq hg⟩
  have hl1 : vals.length = 1 := by
    have := wellAll_len hwl
    exact this
  refine codeAny_mono ((F _ hKb (nsK hns) TB).run callerA [] s₁ H ⟨vals, []⟩ vals (vals.map toV) _ _ hr e0 (hbind s₁ vals hl1) hV (by rw [ea]; exact hsp H a HJ hA)) fun r s' h => ?_
  cases r with
  | error e => exact (show False from h).elim
  | ok fl =>
    cases fl with
    | next => exact False.elim h
    | brk => exact False.elim h
    | cont => exact False.elim h
    | ret u =>
      obtain ⟨v, H', os, bare, un, hok', r', q⟩ := h
      have key : ∀ b o, b ≠ J → s₁.heap.get? b = some o → s'.heap.get? b = some o := fun b o nb e => by
        cases q2 : H b with
        | none => exact un.keep b o e q2 (by intro z; exact absurd (show b ∈ ([] : List Addr) from z) (by simp)) (by simp)
        | some u2 =>
          have q3 := q2
          rw [Hn b nb] at q3
          rcases hO b with z | ⟨ob, u3, z⟩
          · rw [z] at q3
            cases q3
          · rw [z] at q3
            cases q3
            have z2 := un.frzs b ob _ q2
            obtain ⟨e1, _⟩ := hok2 b _ q2
            obtain ⟨e2, _⟩ := hok' b _ z2
            rw [e] at e1
            cases e1
            exact e2
      have grown : ∃ more : Array Value, s'.heap.get? J = some { cls := .none, data := .fields more } := by
        obtain ⟨more, z⟩ := un.tbls J #[] HJ
        exact ⟨_, hok' J _ z⟩
      obtain ⟨more, hmore⟩ := grown
      have KX' : K.In s'.heap := fun b o e => key b o (fun z => by rw [z, nT] at e; cases e) (KX b o e)
      obtain ⟨as, hrd⟩ := Dw.reads (R := R) (cl := cl) hok' KX' d0 v u q r'
      refine ⟨u, as, rfl, hrd, ⟨fun b o e => ?_, fun b o e => ?_⟩, os, bare⟩
      · by_cases hb : b = J
        · subst hb
          rw [hT] at e
          cases e
          exact .inr (.inl ⟨(C.tab hT).isCodeTable, rfl, #[], more, rfl, by rw [Array.empty_append]; exact hmore⟩)
        · exact .inl (key b o hb e)
      · by_cases hb : b = J
        · subst hb
          exact ⟨_, hmore⟩
        · exact ⟨o, key b o hb e⟩
/-- the row: a list of whole numbers is handed in -/
theorem walk_specT {r : OpenSpec} {k : Nat} {q : Program} {loose : List Str} {XP : (Str → Option Value) → Heap → Prop} {YP : World → Heap → Prop} {d dj : DefRec} {K : Params → PySem.W.Frag} {x xj : Str} {sp : PySem.W.Frag → Addr → Sp} {g : Codec.denoteAll r.args → List Int}
    (hwell : r.wellSaid = true) (hr : Room k callerA) (henc : ∀ a : Codec.denoteAll r.args, Codec.encAll r.args a = [.list ((g a).map WData.int)])
    (hY : ∀ (w : World) (h : Heap), YP w h → (K w.params).In h) (hrec : (recsOf q).find? (fun e => e.name == xj) = some dj)
    (ht : ∀ (w : World) (h : Heap), YP w h → ∃ c J, PySem.W.tabIn (K w.params) xj = some (c, J) ∧ (K w.params).lookup J = none)
    (F : ∀ (w : World) (mg : Str → Option Value) (fa : Addr) (h : Heap), YP w h → (K w.params).In h → h.Ns mainGlobals mg → mg d.name = some (.ref fa) → ∀ c J, PySem.W.tabIn (K w.params) xj = some (c, J) →
      ∃ fd : FuncData, (∀ (s : Shared) (us : List Value), us.length = 1 → BindsTo s fd ⟨us, []⟩ ([x].zip us)) ∧
        ∀ base : Heap, (K w.params).In base → base.Ns mainGlobals mg → TabB base mg c J → FnOk r.prog w (K w.params) mg base CX0 k fa fd [x] (sp (K w.params) J))
    (hsp : ∀ (K : PySem.W.Frag) (J : Addr) (H : Hp) (c : Addr) (a : Codec.denoteAll r.args), Codec.withinAll r.args a = true → Codec.app r.args r.asked a = true → H J = some (.tbl #[]) → ArgL K H c ((g a).map V.int) →
      sp K J [.ref c] H (fun v H' => Dw K H' v (r.ret.enc (Codec.app r.args r.f a))) fun _ _ _ => False) :
    PySem.W.WalkOS q loose XP YP r d [] (fun f vs => PySem.call f vs) := by
  intro w s₀ s₁ mg mb G Y fa o pm cd doc dV kV ho hd hcd hD hmg hg args vals as hpre hlay hrd hwl hlo
  obtain ⟨a, e1, e2⟩ := PySem.W.os_pre_some hpre
  obtain ⟨e3, hwi⟩ := Codec.encAll_of_decAll r.args args a e1
  subst e3
  have KX := hY w _ Y
  obtain ⟨c, J, hcJ, nJ⟩ := ht w _ Y
  obtain ⟨CH, hJ⟩ := PySem.W.tab_of G.T KX hrec hcJ
  obtain ⟨fd, hb, hF⟩ := F w mg fa _ Y KX G.T.g hmg c J hcJ
  rw [henc a] at hwl hlay
  have hpl : plWs [.list ((g a).map WData.int)] = true := by rw [← henc a]; exact pl_encAll _ _
  refine PySem.W.enter_call (codeAny_mono (spec_callT (R := []) (cl := classAt s₀.heap) (d0 := r.ret.enc (Codec.app r.args r.f a)) KX G.T.g G.T.b G.T.builtins G.T.nolimit hg hJ nJ CH G.T.bmain hwl hpl (layable_weight hlay) hr hF hb
    (fun H c h1 h2 => hsp _ J H c a hwi e2 h1 h2)) fun r' s' hq => ?_)
  obtain ⟨u, as', rfl, h1, h2, h3, h4⟩ := hq
  exact ⟨.inl ⟨u, _, as', rfl, fun _ => rfl, h1, (OpenSpec.post_iff hwell hwi _ _).mpr rfl, fun z => Bool.noConfusion (show false = true from z)⟩, h2, h3, h4⟩
end Ms
end

/-! text E2 -/
section
set_option Elab.async false
set_option linter.all false
set_option maxRecDepth 100000
set_option maxHeartbeats 4000000
namespace Ms
open PySem PySem.Spec PyProof.Rows L2 LamX
theorem DefAt.mk {K : PySem.W.Frag} {x : Str} {st : Stmt} {f : Addr} {od an : Option Addr} {sl : Array (Option Value)} {oc kV dc pm cd ct : Value}
  (a : PySem.W.nsIn K mainGlobals x = some (some (.ref f))) (l : K.lookup f = some ⟨oc, od, .func (PySem.W.fnOf x x (defArgs st) (defBody st) (defScope st) .none kV dc pm an cd ct), sl⟩) (c : PySem.W.codeIn K cd x = true) (k : PySem.W.keepIn K (.ref f) = true) : DefAt K x st := ⟨f, od, an, sl, oc, kV, dc, pm, cd, ct, a, l, c, k⟩
/-- the defs -/
structure Defs (K : PySem.W.Frag) : Prop where
  d3 : DefAt K "is_in" (top 3)
  d4 : DefAt K "is_endless" (top 4)
  d5 : DefAt K "pieces_of" (top 5)
  d6 : DefAt K "reaches" (top 6)
  d7 : DefAt K "later_end" (top 7)
  d9 : DefAt K "bounds_of" (top 9)
  d10 : DefAt K "truth_of" (top 10)
  d11 : DefAt K "combined" (top 11)
  d13 : DefAt K "shifted" (top 13)
  d14 : DefAt K "is_longer" (top 14)
  d15 : DefAt K "other" (top 15)
  d16 : DefAt K "later" (top 16)
  d17 : DefAt K "earlier" (top 17)
  d18 : DefAt K "recent" (top 18)
  d19 : DefAt K "steady_begin" (top 19)
  d20 : DefAt K "steady" (top 20)
  d21 : DefAt K "soon" (top 21)
  d22 : DefAt K "hull" (top 22)
  d23 : DefAt K "gaps" (top 23)
  d24 : DefAt K "lasting" (top 24)
  d25 : DefAt K "filled" (top 25)
  d26 : DefAt K "every" (top 26)
  d28 : DefAt K "moments_in" (top 28)
  d29 : DefAt K "size" (top 29)
  d30 : DefAt K "next_of" (top 30)
  d31 : DefAt K "up_to" (top 31)
  d32 : DefAt K "previous_of" (top 32)
  d33 : DefAt K "nth_of" (top 33)
  d34 : DefAt K "rank" (top 34)
  d35 : DefAt K "relation" (top 35)
  d36 : DefAt K "order_of" (top 36)
  d37 : DefAt K "apart_by" (top 37)
  d38 : DefAt K "allen" (top 38)
  d47 : DefAt K "sign_of" (top 47)
  d48 : DefAt K "number_of" (top 48)
  d49 : DefAt K "piece_of" (top 49)
  d50 : DefAt K "set_of" (top 50)
  d51 : DefAt K "piece_text" (top 51)
  d52 : DefAt K "text_of" (top 52)
  d72 : DefAt K "need" (top 72)
  d73 : DefAt K "need_there" (top 73)
  d74 : DefAt K "listed" (top 74)
  d75 : DefAt K "read" (top 75)
  d76 : DefAt K "runs" (top 76)
  d77 : DefAt K "changed" (top 77)
  d78 : DefAt K "made_by" (top 78)
  d79 : DefAt K "made" (top 79)
  d80 : DefAt K "put" (top 80)
  d81 : DefAt K "last" (top 81)
  d82 : DefAt K "whole_size" (top 82)
  d83 : DefAt K "piece" (top 83)
  d84 : DefAt K "only_piece" (top 84)
  d85 : DefAt K "asked_of_two" (top 85)
  d86 : DefAt K "asked_with" (top 86)
  d87 : DefAt K "asked" (top 87)
  d88 : DefAt K "accepted" (top 88)
  d89 : DefAt K "answered" (top 89)
  d90 : DefAt K "row_behind" (top 90)
/-- the numbers -/
structure Ints (mg : Str → Option Value) : Prop where
  FIRST_SIGN : GC mg "FIRST_SIGN" (.int (32))
  MOST_DIGITS : GC mg "MOST_DIGITS" (.int (10))
  MOST : GC mg "MOST" (.int (1000000000))
  MOST_BYTES : GC mg "MOST_BYTES" (.int (1000))
  REGISTERS : GC mg "REGISTERS" (.int (8))
  MOST_BOUNDS : GC mg "MOST_BOUNDS" (.int (64))
  MOST_RUNS : GC mg "MOST_RUNS" (.int (32))
  PUT : GC mg "PUT" (.int (1))
  BOUNDS : GC mg "BOUNDS" (.int (2))
  READ : GC mg "READ" (.int (3))
  SHOW : GC mg "SHOW" (.int (4))
  FIRST_ASKED : GC mg "FIRST_ASKED" (.int (25))
  OUT_OF_RANGE : GC mg "OUT_OF_RANGE" (.int (-1))
  NO_FORM : GC mg "NO_FORM" (.int (-2))
  NOT_THERE : GC mg "NOT_THERE" (.int (-3))
  ENDLESS : GC mg "ENDLESS" (.int (-4))
  TOO_GREAT : GC mg "TOO_GREAT" (.int (-5))
  TOO_MANY : GC mg "TOO_MANY" (.int (-6))
structure IntsK (K : PySem.W.Frag) : Prop where
  FIRST_SIGN : ∃ t, PySem.W.nsIn K mainGlobals "FIRST_SIGN" = some (some (.int (32) t))
  MOST_DIGITS : ∃ t, PySem.W.nsIn K mainGlobals "MOST_DIGITS" = some (some (.int (10) t))
  MOST : ∃ t, PySem.W.nsIn K mainGlobals "MOST" = some (some (.int (1000000000) t))
  MOST_BYTES : ∃ t, PySem.W.nsIn K mainGlobals "MOST_BYTES" = some (some (.int (1000) t))
  REGISTERS : ∃ t, PySem.W.nsIn K mainGlobals "REGISTERS" = some (some (.int (8) t))
  MOST_BOUNDS : ∃ t, PySem.W.nsIn K mainGlobals "MOST_BOUNDS" = some (some (.int (64) t))
  MOST_RUNS : ∃ t, PySem.W.nsIn K mainGlobals "MOST_RUNS" = some (some (.int (32) t))
  PUT : ∃ t, PySem.W.nsIn K mainGlobals "PUT" = some (some (.int (1) t))
  BOUNDS : ∃ t, PySem.W.nsIn K mainGlobals "BOUNDS" = some (some (.int (2) t))
  READ : ∃ t, PySem.W.nsIn K mainGlobals "READ" = some (some (.int (3) t))
  SHOW : ∃ t, PySem.W.nsIn K mainGlobals "SHOW" = some (some (.int (4) t))
  FIRST_ASKED : ∃ t, PySem.W.nsIn K mainGlobals "FIRST_ASKED" = some (some (.int (25) t))
  OUT_OF_RANGE : ∃ t, PySem.W.nsIn K mainGlobals "OUT_OF_RANGE" = some (some (.int (-1) t))
  NO_FORM : ∃ t, PySem.W.nsIn K mainGlobals "NO_FORM" = some (some (.int (-2) t))
  NOT_THERE : ∃ t, PySem.W.nsIn K mainGlobals "NOT_THERE" = some (some (.int (-3) t))
  ENDLESS : ∃ t, PySem.W.nsIn K mainGlobals "ENDLESS" = some (some (.int (-4) t))
  TOO_GREAT : ∃ t, PySem.W.nsIn K mainGlobals "TOO_GREAT" = some (some (.int (-5) t))
  TOO_MANY : ∃ t, PySem.W.nsIn K mainGlobals "TOO_MANY" = some (some (.int (-6) t))
theorem IntsK.ints {K : PySem.W.Frag} {mg : Str → Option Value} (i : IntsK K) (G : Gm K mg) : Ints mg :=
  ⟨let ⟨t, e⟩ := i.FIRST_SIGN; ⟨_, G _ _ e, t, rfl⟩, let ⟨t, e⟩ := i.MOST_DIGITS; ⟨_, G _ _ e, t, rfl⟩, let ⟨t, e⟩ := i.MOST; ⟨_, G _ _ e, t, rfl⟩, let ⟨t, e⟩ := i.MOST_BYTES; ⟨_, G _ _ e, t, rfl⟩, let ⟨t, e⟩ := i.REGISTERS; ⟨_, G _ _ e, t, rfl⟩, let ⟨t, e⟩ := i.MOST_BOUNDS; ⟨_, G _ _ e, t, rfl⟩, let ⟨t, e⟩ := i.MOST_RUNS; ⟨_, G _ _ e, t, rfl⟩, let ⟨t, e⟩ := i.PUT; ⟨_, G _ _ e, t, rfl⟩, let ⟨t, e⟩ := i.BOUNDS; ⟨_, G _ _ e, t, rfl⟩, let ⟨t, e⟩ := i.READ; ⟨_, G _ _ e, t, rfl⟩, let ⟨t, e⟩ := i.SHOW; ⟨_, G _ _ e, t, rfl⟩, let ⟨t, e⟩ := i.FIRST_ASKED; ⟨_, G _ _ e, t, rfl⟩, let ⟨t, e⟩ := i.OUT_OF_RANGE; ⟨_, G _ _ e, t, rfl⟩, let ⟨t, e⟩ := i.NO_FORM; ⟨_, G _ _ e, t, rfl⟩, let ⟨t, e⟩ := i.NOT_THERE; ⟨_, G _ _ e, t, rfl⟩, let ⟨t, e⟩ := i.ENDLESS; ⟨_, G _ _ e, t, rfl⟩, let ⟨t, e⟩ := i.TOO_GREAT; ⟨_, G _ _ e, t, rfl⟩, let ⟨t, e⟩ := i.TOO_MANY; ⟨_, G _ _ e, t, rfl⟩⟩
structure BisK (K : PySem.W.Frag) : Prop where
  len : PySem.W.nsIn K mainGlobals "len" = some none
  list : PySem.W.nsIn K mainGlobals "list" = some none
  zip : PySem.W.nsIn K mainGlobals "zip" = some none
  sorted : PySem.W.nsIn K mainGlobals "sorted" = some none
  set : PySem.W.nsIn K mainGlobals "set" = some none
  max : PySem.W.nsIn K mainGlobals "max" = some none
  sum : PySem.W.nsIn K mainGlobals "sum" = some none
  int : PySem.W.nsIn K mainGlobals "int" = some none
  str : PySem.W.nsIn K mainGlobals "str" = some none
  ord : PySem.W.nsIn K mainGlobals "ord" = some none
  all : PySem.W.nsIn K mainGlobals "all" = some none
  range : PySem.W.nsIn K mainGlobals "range" = some none
theorem BisK.bi {K : PySem.W.Frag} {mg : Str → Option Value} (b : BisK K) (G : Gm K mg) : Bi mg := ⟨G _ _ b.len, G _ _ b.list, G _ _ b.zip, G _ _ b.sorted, G _ _ b.set, G _ _ b.max, G _ _ b.sum, G _ _ b.int, G _ _ b.str, G _ _ b.ord, G _ _ b.all, G _ _ b.range⟩
section
variable {P : Program} {w : World} {K : PySem.W.Frag} {mg : Str → Option Value} {base : Heap} {J NT RF C W c : Addr}
theorem all_ok (D : Defs K) (G : Gm K mg) (B : Bi mg) (I : Ints mg) (gPL : GC mg "PLAIN" (.str plainS)) (gDG : GC mg "DIGITS" (.str digitS)) (gA : GL K mg "ALWAYS" [.int 0]) (gN : GL K mg "NEVER" []) (gS : GS K mg) (N : NtF K mg NT) (R : RfF K mg RF) (Rg : RgF K mg C) (gW : GC mg "WORDS" (.ref W)) (kdW : KD P w K W wordsK)
    (d8 : DefAtC K "joined" (top 8) c) (TB : TabB base mg c J) {fa : Addr} {fda : FuncData} (Fa : Fun K "answers" "answers" (top 91) fa fda) : FnOk P w K mg base CX0 9 fa fda ["calls"] (spAll K J) := by
  have f3 := ok_is_in (P := P) (w := w) (base := base) (J := J) D.d3 G B
  have f4 := ok_end (P := P) (w := w) (base := base) (J := J) D.d4 G B
  have f5 := ok_pcs (P := P) (w := w) (base := base)  D.d5 G B f4
  have f6 := ok_reach (P := P) (w := w) (base := base)  D.d6 G
  have f7 := ok_laterE (P := P) (w := w) (base := base)  D.d7 G B
  have f8 := ok_join (P := P) (w := w) (base := base)  d8 G B TB f6 f7
  have f9 := ok_bnd (P := P) (w := w) (base := base)  D.d9 G f8
  have f10 := ok_truth (P := P) (w := w) (base := base)  D.d10 G
  have f11 := ok_comb (P := P) (w := w) (base := base)  D.d11 G B f10 f3 f4
  have f13 := ok_shift (P := P) (w := w) (base := base)  D.d13 G
  have f14 := ok_long (P := P) (w := w) (base := base)  D.d14 G
  have f15 := ok_other (P := P) (w := w) (base := base)  D.d15 G B gA f11
  have f16 := ok_laterS (P := P) (w := w) (base := base) (J := J) D.d16 G
  have f17 := ok_early (P := P) (w := w) (base := base)  D.d17 G B f5 f14 f13 f9
  have f18 := ok_recent (P := P) (w := w) (base := base)  D.d18 G f5 f13 f9
  have f19 := ok_beg (P := P) (w := w) (base := base)  D.d19 G
  have f20 := ok_steady (P := P) (w := w) (base := base)  D.d20 G f5 f14 f19 f9
  have f21 := ok_soon (P := P) (w := w) (base := base)  D.d21 G B f5 f9
  have f22 := ok_hull (P := P) (w := w) (base := base)  D.d22 G gN f4
  have f23 := ok_gaps (P := P) (w := w) (base := base)  D.d23 G f11 f22
  have f24 := ok_lasting (P := P) (w := w) (base := base)  D.d24 G f5 f9
  have f25 := ok_fill (P := P) (w := w) (base := base)  D.d25 G f5 f23 f9
  have f26 := ok_every (P := P) (w := w) (base := base)  D.d26 G B f9
  have f28 := ok_mom (P := P) (w := w) (base := base)  D.d28 G
  have f29 := ok_size (P := P) (w := w) (base := base)  D.d29 G B f5 f28
  have f30 := ok_next (P := P) (w := w) (base := base)  D.d30 G f3 f5
  have f31 := ok_upto (P := P) (w := w) (base := base)  D.d31 G f11
  have f32 := ok_prev (P := P) (w := w) (base := base)  D.d32 G f31
  have f33 := ok_nth (P := P) (w := w) (base := base)  D.d33 G f5
  have f34 := ok_rank (P := P) (w := w) (base := base)  D.d34 G f31 f29
  have f35 := ok_rel (P := P) (w := w) (base := base)  D.d35 G B f11 f15
  have f36 := ok_ord (P := P) (w := w) (base := base)  D.d36 G B
  have f37 := ok_apart (P := P) (w := w) (base := base)  D.d37 G f36
  have f38 := ok_allen (P := P) (w := w) (base := base) (J := J) D.d38 G f37 f36
  have f47 := ok_sign (P := P) (w := w) (base := base)  D.d47 G B I.FIRST_SIGN gPL
  have f48 := ok_num (P := P) (w := w) (base := base) (J := J) D.d48 G B N I.MOST_DIGITS gDG I.MOST
  have f49 := ok_pce (P := P) (w := w) (base := base)  D.d49 G N f48
  have f50 := ok_set (P := P) (w := w) (base := base)  D.d50 G B N I.MOST_BYTES gN gA f47 f49 f9
  have f51 := ok_pt (P := P) (w := w) (base := base)  D.d51 G B
  have f52 := ok_text (P := P) (w := w) (base := base)  D.d52 G gN gA f5 f51
  have f72 := ok_need (P := P) (w := w) (base := base) (J := J) D.d72 G R
  have f73 := ok_there (P := P) (w := w) (base := base)  D.d73 G I.NOT_THERE f72
  have f74 := ok_listed (P := P) (w := w) (base := base)  D.d74 G B I.NO_FORM I.MOST f72
  have f75 := ok_read (P := P) (w := w) (base := base)  D.d75 G R N I.NO_FORM f50
  have f76 := ok_runs (P := P) (w := w) (base := base)  D.d76 G I.MOST_RUNS I.OUT_OF_RANGE f72 f26
  have f77 := ok_changed (P := P) (w := w) (base := base)  D.d77 G I.OUT_OF_RANGE f72 f11
  have f78 := ok_madeby (P := P) (w := w) (base := base)  D.d78 G f16 f17 f18 f20 f21 f24 f25
  have f79 := ok_made (P := P) (w := w) (base := base)  D.d79 G I.PUT I.READ gW kdW f74 f75 f77 f11 f15 f22 f23 f76 f78
  have f80 := ok_put (P := P) (w := w) (base := base)  D.d80 G B Rg I.MOST I.MOST_BOUNDS I.TOO_GREAT I.TOO_MANY f72
  have f81 := ok_last (P := P) (w := w) (base := base)  D.d81 G I.NOT_THERE I.ENDLESS f72 f4
  have f82 := ok_whole (P := P) (w := w) (base := base)  D.d82 G I.ENDLESS f72 f4 f29
  have f83 := ok_piece (P := P) (w := w) (base := base)  D.d83 G B I.NOT_THERE f72 f5
  have f84 := ok_only (P := P) (w := w) (base := base)  D.d84 G B I.NOT_THERE f72 f5
  have f85 := ok_two (P := P) (w := w) (base := base)  D.d85 G f35 f84 f38
  have f86 := ok_with (P := P) (w := w) (base := base)  D.d86 G B f3 f73 f30 f32 f33 f34 f83
  have f87 := ok_asked (P := P) (w := w) (base := base)  D.d87 G B I.BOUNDS I.SHOW f52 f73 f30 f81 f82 f5 f4 f85 f86
  have f88 := ok_acc (P := P) (w := w) (base := base)  D.d88 G B Rg I.REGISTERS I.MOST I.OUT_OF_RANGE I.FIRST_ASKED I.BOUNDS I.SHOW f72 f87 f79 f80
  have f89 := ok_ans (P := P) (w := w) (base := base)  D.d89 G R f88
  have f90 := ok_row (P := P) (w := w) (base := base) (J := J) D.d90 G I.PUT I.READ
  exact ok_all Fa B Rg I.REGISTERS gS f90 f89
end
end Ms
end

/-! text E3 -/
section
set_option Elab.async false
set_option linter.all false
set_option maxRecDepth 100000
set_option maxHeartbeats 4000000
namespace Ms
open PySem PySem.Spec PyProof.Rows L2 LamX
theorem exm_self {K : PySem.W.Frag} {S : Addr} (h1 : PySem.W.subIn K (.ref S) (.type "BaseException") = some true) (h2 : PySem.W.isClsIn K S = true) (h3 : PySem.W.typeIn K (.ref S) = some (.type "type")) (h4 : PySem.W.subIn K (.ref S) (.ref S) = some true) :
    PySem.W.exmOne K (.ref S) (.ref S) = some true := by
  have e1 : (PySem.W.subIn K (.ref S) (.type "BaseException") == some true) = true := by rw [h1] <;> rfl
  have e2 : ((PySem.W.clsIn K S).isSome && PySem.W.typeIn K (.ref S) == some (.type "type")) = true := by
    have h2' : (PySem.W.clsIn K S).isSome = true := h2
    rw [h2', h3] <;> rfl
  show (if (PySem.W.subIn K (.ref S) (.type "BaseException") == some true) = true then (if ((PySem.W.clsIn K S).isSome && PySem.W.typeIn K (.ref S) == some (.type "type")) = true then PySem.W.subIn K (.ref S) (.ref S) else none) else none) = some true
  rw [if_pos e1, if_pos e2]
  exact h4
theorem nt_of {K : PySem.W.Frag} {mg : Str → Option Value} {NT : Addr} (G : Gm K mg) (a : PySem.W.nsIn K mainGlobals "NoText" = some (some (.ref NT))) (q : PySem.W.excIn K NT [.type "ValueError", .type "Exception", .type "BaseException", .type "object"] "ValueError.__new__" = true) (k : PySem.W.keepIn K (.ref NT) = true)
    (s : PySem.W.subIn K (.ref NT) (.type "BaseException") = some true) (t : PySem.W.typeIn K (.ref NT) = some (.type "type")) (i : PySem.W.isClsIn K NT = true) (u : PySem.W.subIn K (.ref NT) (.ref NT) = some true) : NtF K mg NT := ⟨G _ _ a, q, k, s, t, exm_self s i t u⟩
theorem rf_of {K : PySem.W.Frag} {mg : Str → Option Value} {C f1 : Addr} (Gm' : Gm K mg) {nm q : Str} {N : Addr} {bs : List Value} {sn : List Str} {sub : List Value} {ab : Bool} {col : Option Bool} {dd : Option Addr} {m0 m1 m2 m3 m5 : Option Value} {od1 an1 : Option Addr} {sl1 : Array (Option Value)} {oc1 kV1 dc1 pm1 cd1 ct1 : Value}
    (aC : PySem.W.nsIn K mainGlobals "Refused" = some (some (.ref C)))
    (xL : K.lookup C = some (excClassObj nm q C N bs [.type "ValueError", .type "Exception", .type "BaseException", .type "object"] true sn sub ab col dd m0 m1 m2 m3 m5 "ValueError.__new__"))
    (sa : PySem.W.findIn K (.ref C) "__setattr__" = some (some (.builtin "object.__setattr__"))) (ga : PySem.W.findIn K (.ref C) "__getattribute__" = some (some (.builtin "BaseException.__getattribute__"))) (gg : PySem.W.findIn K (.ref C) "__getattr__" = some none) (nb : PySem.W.findIn K (.ref C) "number" = some none)
    (a1 : PySem.W.findIn K (.ref C) "__init__" = some (some (.ref f1))) (t1 : PySem.W.typeIn K (.ref f1) = some (.type "function"))
    (l1 : K.lookup f1 = some ⟨oc1, od1, .func (PySem.W.fnOf "__init__" "Refused.__init__" (defArgs sRI) (defBody sRI) (defScope sRI) .none kV1 dc1 pm1 an1 cd1 ct1), sl1⟩) (c1 : PySem.W.codeIn K cd1 "Refused.__init__" = true) (k1 : PySem.W.keepIn K (.ref f1) = true)
    (kC : PySem.W.keepIn K (.ref C) = true) (eC : PySem.W.subIn K (.ref C) (.type "BaseException") = some true) (tC : PySem.W.typeIn K (.ref C) = some (.type "type")) (hC : PySem.W.hasDictIn K C = true) (iC : PySem.W.isClsIn K C = true) (sC : PySem.W.subIn K (.ref C) (.ref C) = some true) : RfF K mg C :=
  ⟨Gm' _ _ aC, ⟨⟨nm, q, N, bs, _, sn, sub, ab, col, dd, m0, m1, m2, m3, m5, xL, by decide +kernel⟩, sa, eC, tC, kC⟩, nb, ⟨ga, gg, eC, hC⟩, exm_self eC iC tC sC, f1, _, a1, t1, fun_mk (st := sRI) l1 c1 k1⟩
theorem rg_of {K : PySem.W.Frag} {mg : Str → Option Value} {C f1 f2 : Addr} (Gm' : Gm K mg) {od1 an1 od2 an2 : Option Addr} {sl1 sl2 : Array (Option Value)} {oc1 kV1 dc1 pm1 cd1 ct1 oc2 kV2 dc2 pm2 cd2 ct2 : Value}
    (aC : PySem.W.nsIn K mainGlobals "Registers" = some (some (.ref C))) (pg : PySem.W.plainGet K C Str.empty = true) (hd : PySem.W.hasDictIn K C = true) (po : PySem.W.plainOver K C = true) (sa : PySem.W.findIn K (.ref C) "__setattr__" = some (some (.builtin "object.__setattr__"))) (mk : PySem.W.makesIn K C = true) (kc : PySem.W.keepIn K (.ref C) = true) (nS : PySem.W.findIn K (.ref C) "sets" = some none)
    (a1 : PySem.W.findIn K (.ref C) "__init__" = some (some (.ref f1))) (i1 : PySem.W.isFn K (.ref f1) = true) (l1 : K.lookup f1 = some ⟨oc1, od1, .func (PySem.W.fnOf "__init__" "Registers.__init__" (defArgs sGI) (defBody sGI) (defScope sGI) .none kV1 dc1 pm1 an1 cd1 ct1), sl1⟩) (c1 : PySem.W.codeIn K cd1 "Registers.__init__" = true) (k1 : PySem.W.keepIn K (.ref f1) = true)
    (a2 : PySem.W.findIn K (.ref C) "put" = some (some (.ref f2))) (i2 : PySem.W.isFn K (.ref f2) = true) (l2 : K.lookup f2 = some ⟨oc2, od2, .func (PySem.W.fnOf "put" "Registers.put" (defArgs sGP) (defBody sGP) (defScope sGP) .none kV2 dc2 pm2 an2 cd2 ct2), sl2⟩) (c2 : PySem.W.codeIn K cd2 "Registers.put" = true) (k2 : PySem.W.keepIn K (.ref f2) = true) : RgF K mg C :=
  ⟨Gm' _ _ aC, ⟨pg, hd, po, sa⟩, nS, ⟨f1, _, ⟨mk, a1, i1, kc⟩, fun_mk (st := sGI) l1 c1 k1⟩, ⟨f2, _, ⟨a2, i2, k2⟩, fun_mk (st := sGP) l2 c2 k2⟩⟩
theorem gl_of {K : PySem.W.Frag} {mg : Str → Option Value} {x : Str} {A : Addr} {its : Array Value} {n : Nat} {sl : Array (Option Value)} {xs : List V} (G : Gm K mg) (a : PySem.W.nsIn K mainGlobals x = some (some (.ref A))) (l : K.lookup A = some ⟨.type "list", none, .seq its n, sl⟩) (hz : its.size ≤ sizeLine) (hv : Vals xs its.toList) : GL K mg x xs :=
  ⟨A, ⟨_, G _ _ a, rfl⟩, fun H => .inr ⟨_, its, n, l, rfl, rfl, rfl, hz, hv⟩⟩
/-- all facts of the text -/
structure All (K : PySem.W.Frag) : Prop where
  D : Defs K
  I : IntsK K
  B : BisK K
  pl : ∃ t, PySem.W.nsIn K mainGlobals "PLAIN" = some (some (.str plainS t))
  dg : ∃ t, PySem.W.nsIn K mainGlobals "DIGITS" = some (some (.str digitS t))
  al : ∃ A t n sl, PySem.W.nsIn K mainGlobals "ALWAYS" = some (some (.ref A)) ∧ K.lookup A = some ⟨.type "list", none, .seq #[.int 0 t] n, sl⟩
  nv : ∃ A n sl, PySem.W.nsIn K mainGlobals "NEVER" = some (some (.ref A)) ∧ K.lookup A = some ⟨.type "list", none, .seq #[] n, sl⟩
  sh : ∃ SH as, PySem.W.nsIn K mainGlobals "SHAPES" = some (some (.ref SH)) ∧ (∀ H, SqT K H SH (as.map V.ref)) ∧ Paired (fun a (x : Nat × Nat) => ∀ H, SqT K H a [.int (x.1 : Int), .int (x.2 : Int)]) as shp
  wd : ∃ W h1 h2 h3 h4 t1 t2 t3 t4 u1 u2 u3 u4 ep, PySem.W.nsIn K mainGlobals "WORDS" = some (some (.ref W)) ∧ (W == sysModules) = false ∧ (h1 = hashInt 10 ∧ h2 = hashInt 11 ∧ h3 = hashInt 12 ∧ h4 = hashInt 13) ∧
    K.lookup W = some ⟨.type "dict", none, .dict #[⟨h1, .int 10 t1, .str "either" u1⟩, ⟨h2, .int 11 t2, .str "both" u2⟩, ⟨h3, .int 12 t3, .str "less" u3⟩, ⟨h4, .int 13 t4, .str "odd" u4⟩] ep, #[]⟩
  jo : DefAt K "joined" (top 8)
theorem joined_at {K : PySem.W.Frag} {c J : Addr} (d : DefAt K "joined" (top 8)) (h : PySem.W.tabIn K "joined" = some (c, J)) : DefAtC K "joined" (top 8) c := by
  obtain ⟨f, od, an, sl, oc, kV, dc, pm, cd, ct, a, l, cc, kk⟩ := d
  unfold PySem.W.tabIn at h
  rw [a] at h
  simp only at h
  rw [l] at h
  simp only at h
  split at h
  · rename_i c2
    split at h
    · split at h
      · cases h
        exact ⟨f, od, an, sl, oc, kV, dc, pm, ct, a, l, cc, kk⟩
      · cases h
    · cases h
  · cases h
theorem all_mk {P : Program} {w : World} {K : PySem.W.Frag} {h : Heap} {mg : Str → Option Value} {fa NT RF C f91 c J : Addr} (X : K.In h) (Gn : h.Ns mainGlobals mg) (hfa : mg "answers" = some (.ref fa)) (hcJ : PySem.W.tabIn K "joined" = some (c, J))
    (A : All K) (N : ∀ mg, Gm K mg → NtF K mg NT) (R : ∀ mg, Gm K mg → RfF K mg RF) (Rg : ∀ mg, Gm K mg → RgF K mg C)
    {od an : Option Addr} {sl : Array (Option Value)} {oc kV dc pm cd ct : Value} (a91 : PySem.W.nsIn K mainGlobals "answers" = some (some (.ref f91)))
    (l91 : K.lookup f91 = some ⟨oc, od, .func (PySem.W.fnOf "answers" "answers" (defArgs (top 91)) (defBody (top 91)) (defScope (top 91)) .none kV dc pm an cd ct), sl⟩) (c91 : PySem.W.codeIn K cd "answers" = true) (k91 : PySem.W.keepIn K (.ref f91) = true) :
    ∃ fd : FuncData, (∀ (s : Shared) (us : List Value), us.length = 1 → BindsTo s fd ⟨us, []⟩ ((["calls"] : List Str).zip us)) ∧ ∀ base : Heap, K.In base → base.Ns mainGlobals mg → TabB base mg c J → FnOk P w K mg base CX0 9 fa fd ["calls"] (spAll K J) := by
  have G : Gm K mg := fun x r e => by
    cases r with
    | none => exact PySem.W.mg_none_of X Gn e
    | some v => exact PySem.W.mg_of X Gn e
  have e := hfa.symm.trans (G _ _ a91)
  cases e
  have Fa := fun_mk (st := top 91) l91 c91 k91
  refine ⟨PySem.W.fnOf "answers" "answers" (defArgs (top 91)) (defBody (top 91)) (defScope (top 91)) .none kV dc pm an cd ct, fun s us hu => match us, hu with | [_], _ => .of_eq rfl, fun base hK hN TB => ?_⟩
  obtain ⟨tp, hpl⟩ := A.pl
  obtain ⟨td, hdg⟩ := A.dg
  obtain ⟨aA, tA, nA, sA, hA, lA⟩ := A.al
  obtain ⟨aN, nN, sN, hN2, lN⟩ := A.nv
  obtain ⟨SH, as, hSH, sSH, pSH⟩ := A.sh
  obtain ⟨W, h1, h2, h3, h4, t1, t2, t3, t4, u1, u2, u3, u4, ep, hW, sW, ⟨rfl, rfl, rfl, rfl⟩, lW⟩ := A.wd
  exact all_ok A.D G (A.B.bi G) (A.I.ints G) ⟨_, G _ _ hpl, tp, rfl⟩ ⟨_, G _ _ hdg, td, rfl⟩ (gl_of G hA lA (by show 1 ≤ sizeLine; decide) (.cons ⟨_, rfl⟩ .nil)) (gl_of G hN2 lN (by show 0 ≤ sizeLine; decide) .nil) ⟨SH, as, ⟨_, G _ _ hSH, rfl⟩, sSH, pSH⟩ (N mg G) (R mg G) (Rg mg G) ⟨_, G _ _ hW, rfl⟩
    (KD.four sW (by decide) lW) (joined_at A.jo hcJ) TB Fa
theorem tab_start {H : Hp} {J : Addr} (h : H J = some (.tbl #[])) : Tab J H := ⟨#[], h, trivial, fun pos cv hc => by cases hc⟩
/-- the request -/
theorem all_sp {K : PySem.W.Frag} {J c : Addr} {H : Hp} {l : List Int} (ha : PyVabita.answers_asked l = true) (hl : l.length ≤ 16000) (hJ : H J = some (.tbl #[])) (hA : ArgL K H c (l.map V.int)) : spAll K J [.ref c] H (fun v H' => Dw K H' v (.list ((PyVabita.answers l).map PySem.W.WData.int))) fun _ _ _ => False := by
  obtain ⟨h1, h2⟩ := run_of ha hl
  exact ⟨c, l, _, rfl, hA, tab_start hJ, h1, h2, by omega, fun H' p hp => .lst (L2.SqL.of hp) (L2.dw_ints _)⟩
theorem tab_k {K : PySem.W.Frag} {h : Heap} (X : K.In h) {f c J : Addr} {x : Str} {oc oc2 : Value} {od od2 : Option Addr} {fd : FuncData} {sl sl2 : Array (Option Value)} {vs : Array Value} (a : PySem.W.nsIn K mainGlobals x = some (some (.ref f))) (l : K.lookup f = some ⟨oc, od, .func fd, sl⟩) (e : fd.code = .ref c) (lc : K.lookup c = some ⟨oc2, od2, .fields vs, sl2⟩) (e2 : vs[11]? = some (.ref J)) (b : K.lookup J = none) :
    ∃ c J, PySem.W.tabIn K x = some (c, J) ∧ K.lookup J = none := by
  refine ⟨c, J, ?_, b⟩
  unfold PySem.W.tabIn
  rw [a]
  simp only
  rw [l]
  simp only
  rw [e]
  simp only
  rw [lc]
  simp only
  rw [e2]
theorem ik_mk {K : PySem.W.Frag} {x : Str} {v : Int} {t : Tok} (a : PySem.W.nsIn K mainGlobals x = some (some (.int v t))) : ∃ t, PySem.W.nsIn K mainGlobals x = some (some (.int v t)) := ⟨t, a⟩
theorem sk_mk {K : PySem.W.Frag} {x v : Str} {t : Tok} (a : PySem.W.nsIn K mainGlobals x = some (some (.str v t))) : ∃ t, PySem.W.nsIn K mainGlobals x = some (some (.str v t)) := ⟨t, a⟩
theorem al_mk {K : PySem.W.Frag} {A : Addr} {t : Tok} {n : Nat} {sl : Array (Option Value)} (a : PySem.W.nsIn K mainGlobals "ALWAYS" = some (some (.ref A))) (l : K.lookup A = some ⟨.type "list", none, .seq #[.int 0 t] n, sl⟩) : ∃ A t n sl, PySem.W.nsIn K mainGlobals "ALWAYS" = some (some (.ref A)) ∧ K.lookup A = some ⟨.type "list", none, .seq #[.int 0 t] n, sl⟩ := ⟨A, t, n, sl, a, l⟩
theorem nv_mk {K : PySem.W.Frag} {A : Addr} {n : Nat} {sl : Array (Option Value)} (a : PySem.W.nsIn K mainGlobals "NEVER" = some (some (.ref A))) (l : K.lookup A = some ⟨.type "list", none, .seq #[] n, sl⟩) : ∃ A n sl, PySem.W.nsIn K mainGlobals "NEVER" = some (some (.ref A)) ∧ K.lookup A = some ⟨.type "list", none, .seq #[] n, sl⟩ := ⟨A, n, sl, a, l⟩
theorem wd_mk {K : PySem.W.Frag} {W : Addr} {h1 h2 h3 h4 : Int} {t1 t2 t3 t4 u1 u2 u3 u4 : Tok} {ep : Nat} (a : PySem.W.nsIn K mainGlobals "WORDS" = some (some (.ref W))) (l : K.lookup W = some ⟨.type "dict", none, .dict #[⟨h1, .int 10 t1, .str "either" u1⟩, ⟨h2, .int 11 t2, .str "both" u2⟩, ⟨h3, .int 12 t3, .str "less" u3⟩, ⟨h4, .int 13 t4, .str "odd" u4⟩] ep, #[]⟩)
    (s : (W == sysModules) = false) (e1 : h1 = hashInt 10) (e2 : h2 = hashInt 11) (e3 : h3 = hashInt 12) (e4 : h4 = hashInt 13) : ∃ W h1 h2 h3 h4 t1 t2 t3 t4 u1 u2 u3 u4 ep, PySem.W.nsIn K mainGlobals "WORDS" = some (some (.ref W)) ∧ (W == sysModules) = false ∧ (h1 = hashInt 10 ∧ h2 = hashInt 11 ∧ h3 = hashInt 12 ∧ h4 = hashInt 13) ∧
    K.lookup W = some ⟨.type "dict", none, .dict #[⟨h1, .int 10 t1, .str "either" u1⟩, ⟨h2, .int 11 t2, .str "both" u2⟩, ⟨h3, .int 12 t3, .str "less" u3⟩, ⟨h4, .int 13 t4, .str "odd" u4⟩] ep, #[]⟩ := ⟨W, h1, h2, h3, h4, t1, t2, t3, t4, u1, u2, u3, u4, ep, a, s, ⟨e1, e2, e3, e4⟩, l⟩
/-- one pair of SHAPES -/
def PairAt (K : PySem.W.Frag) (a : Addr) (x : Nat × Nat) : Prop := ∀ H, SqT K H a [.int (x.1 : Int), .int (x.2 : Int)]
theorem pa_mk {K : PySem.W.Frag} {a : Addr} {od : Option Addr} {sl : Array (Option Value)} {k : Nat} {x y : Nat} {t u : Tok} (l : K.lookup a = some ⟨.type "tuple", od, .seq #[.int (x : Int) t, .int (y : Int) u] k, sl⟩) : PairAt K a (x, y) :=
  fun H => .inr ⟨_, _, k, l, rfl, rfl, by show 2 ≤ sizeLine; decide, .cons ⟨_, rfl⟩ (.cons ⟨_, rfl⟩ .nil)⟩
theorem sh_mk {K : PySem.W.Frag} {SH s0 s1 s2 s3 s4 s5 s6 s7 s8 s9 s10 s11 s12 s13 s14 s15 s16 s17 s18 s19 s20 s21 s22 s23 s24 s25 s26 s27 s28 s29 s30 s31 s32 s33 s34 s35 s36 : Addr} {od : Option Addr} {sl : Array (Option Value)} {k : Nat} (a : PySem.W.nsIn K mainGlobals "SHAPES" = some (some (.ref SH))) (l : K.lookup SH = some ⟨.type "tuple", od, .seq #[.ref s0, .ref s1, .ref s2, .ref s3, .ref s4, .ref s5, .ref s6, .ref s7, .ref s8, .ref s9, .ref s10, .ref s11, .ref s12, .ref s13, .ref s14, .ref s15, .ref s16, .ref s17, .ref s18, .ref s19, .ref s20, .ref s21, .ref s22, .ref s23, .ref s24, .ref s25, .ref s26, .ref s27, .ref s28, .ref s29, .ref s30, .ref s31, .ref s32, .ref s33, .ref s34, .ref s35, .ref s36] k, sl⟩)
    (p0 : PairAt K s0 (1, 0)) (p1 : PairAt K s1 (1, 0)) (p2 : PairAt K s2 (1, 0)) (p3 : PairAt K s3 (1, 0)) (p4 : PairAt K s4 (1, 0)) (p5 : PairAt K s5 (1, 2)) (p6 : PairAt K s6 (1, 1)) (p7 : PairAt K s7 (1, 2)) (p8 : PairAt K s8 (1, 1)) (p9 : PairAt K s9 (1, 1)) (p10 : PairAt K s10 (3, 0)) (p11 : PairAt K s11 (3, 0)) (p12 : PairAt K s12 (3, 0)) (p13 : PairAt K s13 (3, 0)) (p14 : PairAt K s14 (2, 0)) (p15 : PairAt K s15 (2, 1)) (p16 : PairAt K s16 (2, 1)) (p17 : PairAt K s17 (2, 1)) (p18 : PairAt K s18 (2, 1)) (p19 : PairAt K s19 (2, 1)) (p20 : PairAt K s20 (2, 0)) (p21 : PairAt K s21 (2, 0)) (p22 : PairAt K s22 (2, 1)) (p23 : PairAt K s23 (2, 1)) (p24 : PairAt K s24 (1, 4)) (p25 : PairAt K s25 (1, 1)) (p26 : PairAt K s26 (1, 0)) (p27 : PairAt K s27 (1, 0)) (p28 : PairAt K s28 (1, 0)) (p29 : PairAt K s29 (1, 1)) (p30 : PairAt K s30 (1, 1)) (p31 : PairAt K s31 (1, 1)) (p32 : PairAt K s32 (1, 1)) (p33 : PairAt K s33 (1, 0)) (p34 : PairAt K s34 (1, 1)) (p35 : PairAt K s35 (2, 0)) (p36 : PairAt K s36 (2, 0)) :
    ∃ SH as, PySem.W.nsIn K mainGlobals "SHAPES" = some (some (.ref SH)) ∧ (∀ H, SqT K H SH (as.map V.ref)) ∧ Paired (fun a (x : Nat × Nat) => ∀ H, SqT K H a [.int (x.1 : Int), .int (x.2 : Int)]) as shp :=
  ⟨SH, [s0, s1, s2, s3, s4, s5, s6, s7, s8, s9, s10, s11, s12, s13, s14, s15, s16, s17, s18, s19, s20, s21, s22, s23, s24, s25, s26, s27, s28, s29, s30, s31, s32, s33, s34, s35, s36], a, fun H => .inr ⟨_, _, k, l, rfl, rfl, by show 37 ≤ sizeLine; decide, .cons rfl (.cons rfl (.cons rfl (.cons rfl (.cons rfl (.cons rfl (.cons rfl (.cons rfl (.cons rfl (.cons rfl (.cons rfl (.cons rfl (.cons rfl (.cons rfl (.cons rfl (.cons rfl (.cons rfl (.cons rfl (.cons rfl (.cons rfl (.cons rfl (.cons rfl (.cons rfl (.cons rfl (.cons rfl (.cons rfl (.cons rfl (.cons rfl (.cons rfl (.cons rfl (.cons rfl (.cons rfl (.cons rfl (.cons rfl (.cons rfl (.cons rfl (.cons rfl (.nil)))))))))))))))))))))))))))))))))))))⟩, .cons p0 (.cons p1 (.cons p2 (.cons p3 (.cons p4 (.cons p5 (.cons p6 (.cons p7 (.cons p8 (.cons p9 (.cons p10 (.cons p11 (.cons p12 (.cons p13 (.cons p14 (.cons p15 (.cons p16 (.cons p17 (.cons p18 (.cons p19 (.cons p20 (.cons p21 (.cons p22 (.cons p23 (.cons p24 (.cons p25 (.cons p26 (.cons p27 (.cons p28 (.cons p29 (.cons p30 (.cons p31 (.cons p32 (.cons p33 (.cons p34 (.cons p35 (.cons p36 (.nil)))))))))))))))))))))))))))))))))))))⟩
end Ms
end

/-! text E4 -/
section
set_option Elab.async false
set_option linter.all false
set_option maxRecDepth 100000
set_option maxHeartbeats 4000000
open PySem PySem.W PyProof.Rows
set_option maxRecDepth 100000 in
set_option maxHeartbeats 8000000 in
theorem PySem.Challenge.cw_momentsets_s01_answers_holds : PySem.Challenge.rw_momentsets_s01_answers.Holds := by
  w_on; k_headS; (case hw => exact ⟨[.list [.int 0, .int 0]], by decide +kernel, by decide +kernel⟩)
  k_fillS
  refine Ms.walk_specT (r := PySem.Challenge.rw_momentsets_s01_answers) (k := 9) (x := "calls") (xj := "joined") (sp := fun K J => Ms.spAll K J) (g := fun a => a.1) (by decide +kernel) ⟨rfl, by decide, by decide⟩ (fun a => rfl) (fun w h Y => PySem.W.kIn_of Y) (by rfl) ?T ?F ?S
  case T =>
    intro w h Y
    have KX := PySem.W.kIn_of Y
    refine' Ms.tab_k KX ?a ?l ?e ?lc ?e2 ?b
    (case a => k_is); (case l => k_is); (case e => rfl); (case lc => k_is); (case e2 => rfl); (case b => first | kernel_rfl | rfl)
  case F =>
    intro w mg fa h Y KX G hmg c J hcJ
    refine' Ms.all_mk KX G hmg hcJ (Ms.All.mk (Ms.Defs.mk ?d3 ?d4 ?d5 ?d6 ?d7 ?d9 ?d10 ?d11 ?d13 ?d14 ?d15 ?d16 ?d17 ?d18 ?d19 ?d20 ?d21 ?d22 ?d23 ?d24 ?d25 ?d26 ?d28 ?d29 ?d30 ?d31 ?d32 ?d33 ?d34 ?d35 ?d36 ?d37 ?d38 ?d47 ?d48 ?d49 ?d50 ?d51 ?d52 ?d72 ?d73 ?d74 ?d75 ?d76 ?d77 ?d78 ?d79 ?d80 ?d81 ?d82 ?d83 ?d84 ?d85 ?d86 ?d87 ?d88 ?d89 ?d90) (Ms.IntsK.mk (Ms.ik_mk ?iFIRST_SIGN) (Ms.ik_mk ?iMOST_DIGITS) (Ms.ik_mk ?iMOST) (Ms.ik_mk ?iMOST_BYTES) (Ms.ik_mk ?iREGISTERS) (Ms.ik_mk ?iMOST_BOUNDS) (Ms.ik_mk ?iMOST_RUNS) (Ms.ik_mk ?iPUT) (Ms.ik_mk ?iBOUNDS) (Ms.ik_mk ?iREAD) (Ms.ik_mk ?iSHOW) (Ms.ik_mk ?iFIRST_ASKED) (Ms.ik_mk ?iOUT_OF_RANGE) (Ms.ik_mk ?iNO_FORM) (Ms.ik_mk ?iNOT_THERE) (Ms.ik_mk ?iENDLESS) (Ms.ik_mk ?iTOO_GREAT) (Ms.ik_mk ?iTOO_MANY)) (Ms.BisK.mk ?blen ?blist ?bzip ?bsorted ?bset ?bmax ?bsum ?bint ?bstr ?bord ?ball ?brange) (Ms.sk_mk ?pl) (Ms.sk_mk ?dg) (Ms.al_mk ?aA ?lA) (Ms.nv_mk ?aN ?lN) (Ms.sh_mk ?aS ?lS (Ms.pa_mk ?p0) (Ms.pa_mk ?p1) (Ms.pa_mk ?p2) (Ms.pa_mk ?p3) (Ms.pa_mk ?p4) (Ms.pa_mk ?p5) (Ms.pa_mk ?p6) (Ms.pa_mk ?p7) (Ms.pa_mk ?p8) (Ms.pa_mk ?p9) (Ms.pa_mk ?p10) (Ms.pa_mk ?p11) (Ms.pa_mk ?p12) (Ms.pa_mk ?p13) (Ms.pa_mk ?p14) (Ms.pa_mk ?p15) (Ms.pa_mk ?p16) (Ms.pa_mk ?p17) (Ms.pa_mk ?p18) (Ms.pa_mk ?p19) (Ms.pa_mk ?p20) (Ms.pa_mk ?p21) (Ms.pa_mk ?p22) (Ms.pa_mk ?p23) (Ms.pa_mk ?p24) (Ms.pa_mk ?p25) (Ms.pa_mk ?p26) (Ms.pa_mk ?p27) (Ms.pa_mk ?p28) (Ms.pa_mk ?p29) (Ms.pa_mk ?p30) (Ms.pa_mk ?p31) (Ms.pa_mk ?p32) (Ms.pa_mk ?p33) (Ms.pa_mk ?p34) (Ms.pa_mk ?p35) (Ms.pa_mk ?p36)) (Ms.wd_mk ?aW ?lW ?sW ?h1 ?h2 ?h3 ?h4) ?d8)
      (fun mg G => Ms.nt_of G ?t1 ?t2 ?t3 ?t4 ?t5 ?t6 ?t7) (fun mg G => Ms.rf_of G ?r1 ?r2 ?r3 ?r4 ?r5 ?r6 ?r7 ?r8 ?r9 ?r10 ?r11 ?r12 ?r13 ?r14 ?r15 ?r16 ?r17) (fun mg G => Ms.rg_of G ?g1 ?g2 ?g3 ?g4 ?g5 ?g6 ?g7 ?g8 ?g9 ?g10 ?g11 ?g12 ?g13 ?g14 ?g15 ?g16 ?g17 ?g18) ?a91 ?l91 ?c91 ?k91
    (case a91 => k_is); (case l91 => k_is); (case c91 => k_is); (case k91 => k_is)
    (case pl => k_is); (case dg => k_is); (case aA => k_is); (case lA => k_is); (case aN => k_is); (case lN => k_is)
    (case aS => k_is); (case lS => k_is); (case aW => k_is); (case lW => k_is); (case sW => rfl); (case h1 => rfl); (case h2 => rfl); (case h3 => rfl); (case h4 => rfl)
    (case d8 => refine' Ms.DefAt.mk ?a ?l ?c ?k; (case a => k_is); (case l => k_is); (case c => k_is); (case k => k_is))
    (case t1 => k_is); (case t2 => k_exc); (case t3 => k_is); (case t4 => k_is); (case t5 => k_is); (case t6 => k_is); (case t7 => first | rfl | k_is)
    (case r1 => k_is); (case r2 => k_is); (case r3 => k_is); (case r4 => k_is); (case r5 => k_is); (case r6 => k_is); (case r7 => k_is); (case r8 => k_is); (case r9 => k_is); (case r10 => k_is); (case r11 => k_is); (case r12 => k_is); (case r13 => k_is); (case r14 => k_is); (case r15 => k_is); (case r16 => k_is); (case r17 => first | rfl | k_is)
    (case g1 => k_is); (case g2 => k_is); (case g3 => k_is); (case g4 => k_is); (case g5 => k_is); (case g6 => k_is); (case g7 => k_is); (case g8 => k_is); (case g9 => k_is); (case g10 => k_is); (case g11 => k_is); (case g12 => k_is); (case g13 => k_is); (case g14 => k_is); (case g15 => k_is); (case g16 => k_is); (case g17 => k_is); (case g18 => k_is)
    (case iFIRST_SIGN => k_is)
    (case iMOST_DIGITS => k_is)
    (case iMOST => k_is)
    (case iMOST_BYTES => k_is)
    (case iREGISTERS => k_is)
    (case iMOST_BOUNDS => k_is)
    (case iMOST_RUNS => k_is)
    (case iPUT => k_is)
    (case iBOUNDS => k_is)
    (case iREAD => k_is)
    (case iSHOW => k_is)
    (case iFIRST_ASKED => k_is)
    (case iOUT_OF_RANGE => k_is)
    (case iNO_FORM => k_is)
    (case iNOT_THERE => k_is)
    (case iENDLESS => k_is)
    (case iTOO_GREAT => k_is)
    (case iTOO_MANY => k_is)
    (case blen => k_is)
    (case blist => k_is)
    (case bzip => k_is)
    (case bsorted => k_is)
    (case bset => k_is)
    (case bmax => k_is)
    (case bsum => k_is)
    (case bint => k_is)
    (case bstr => k_is)
    (case bord => k_is)
    (case ball => k_is)
    (case brange => k_is)
    (case d3 => refine' Ms.DefAt.mk ?a ?l ?c ?k; (case a => k_is); (case l => k_is); (case c => k_is); (case k => k_is))
    (case d4 => refine' Ms.DefAt.mk ?a ?l ?c ?k; (case a => k_is); (case l => k_is); (case c => k_is); (case k => k_is))
    (case d5 => refine' Ms.DefAt.mk ?a ?l ?c ?k; (case a => k_is); (case l => k_is); (case c => k_is); (case k => k_is))
    (case d6 => refine' Ms.DefAt.mk ?a ?l ?c ?k; (case a => k_is); (case l => k_is); (case c => k_is); (case k => k_is))
    (case d7 => refine' Ms.DefAt.mk ?a ?l ?c ?k; (case a => k_is); (case l => k_is); (case c => k_is); (case k => k_is))
    (case d9 => refine' Ms.DefAt.mk ?a ?l ?c ?k; (case a => k_is); (case l => k_is); (case c => k_is); (case k => k_is))
    (case d10 => refine' Ms.DefAt.mk ?a ?l ?c ?k; (case a => k_is); (case l => k_is); (case c => k_is); (case k => k_is))
    (case d11 => refine' Ms.DefAt.mk ?a ?l ?c ?k; (case a => k_is); (case l => k_is); (case c => k_is); (case k => k_is))
    (case d13 => refine' Ms.DefAt.mk ?a ?l ?c ?k; (case a => k_is); (case l => k_is); (case c => k_is); (case k => k_is))
    (case d14 => refine' Ms.DefAt.mk ?a ?l ?c ?k; (case a => k_is); (case l => k_is); (case c => k_is); (case k => k_is))
    (case d15 => refine' Ms.DefAt.mk ?a ?l ?c ?k; (case a => k_is); (case l => k_is); (case c => k_is); (case k => k_is))
    (case d16 => refine' Ms.DefAt.mk ?a ?l ?c ?k; (case a => k_is); (case l => k_is); (case c => k_is); (case k => k_is))
    (case d17 => refine' Ms.DefAt.mk ?a ?l ?c ?k; (case a => k_is); (case l => k_is); (case c => k_is); (case k => k_is))
    (case d18 => refine' Ms.DefAt.mk ?a ?l ?c ?k; (case a => k_is); (case l => k_is); (case c => k_is); (case k => k_is))
    (case d19 => refine' Ms.DefAt.mk ?a ?l ?c ?k; (case a => k_is); (case l => k_is); (case c => k_is); (case k => k_is))
    (case d20 => refine' Ms.DefAt.mk ?a ?l ?c ?k; (case a => k_is); (case l => k_is); (case c => k_is); (case k => k_is))
    (case d21 => refine' Ms.DefAt.mk ?a ?l ?c ?k; (case a => k_is); (case l => k_is); (case c => k_is); (case k => k_is))
    (case d22 => refine' Ms.DefAt.mk ?a ?l ?c ?k; (case a => k_is); (case l => k_is); (case c => k_is); (case k => k_is))
    (case d23 => refine' Ms.DefAt.mk ?a ?l ?c ?k; (case a => k_is); (case l => k_is); (case c => k_is); (case k => k_is))
    (case d24 => refine' Ms.DefAt.mk ?a ?l ?c ?k; (case a => k_is); (case l => k_is); (case c => k_is); (case k => k_is))
    (case d25 => refine' Ms.DefAt.mk ?a ?l ?c ?k; (case a => k_is); (case l => k_is); (case c => k_is); (case k => k_is))
    (case d26 => refine' Ms.DefAt.mk ?a ?l ?c ?k; (case a => k_is); (case l => k_is); (case c => k_is); (case k => k_is))
    (case d28 => refine' Ms.DefAt.mk ?a ?l ?c ?k; (case a => k_is); (case l => k_is); (case c => k_is); (case k => k_is))
    (case d29 => refine' Ms.DefAt.mk ?a ?l ?c ?k; (case a => k_is); (case l => k_is); (case c => k_is); (case k => k_is))
    (case d30 => refine' Ms.DefAt.mk ?a ?l ?c ?k; (case a => k_is); (case l => k_is); (case c => k_is); (case k => k_is))
    (case d31 => refine' Ms.DefAt.mk ?a ?l ?c ?k; (case a => k_is); (case l => k_is); (case c => k_is); (case k => k_is))
    (case d32 => refine' Ms.DefAt.mk ?a ?l ?c ?k; (case a => k_is); (case l => k_is); (case c => k_is); (case k => k_is))
    (case d33 => refine' Ms.DefAt.mk ?a ?l ?c ?k; (case a => k_is); (case l => k_is); (case c => k_is); (case k => k_is))
    (case d34 => refine' Ms.DefAt.mk ?a ?l ?c ?k; (case a => k_is); (case l => k_is); (case c => k_is); (case k => k_is))
    (case d35 => refine' Ms.DefAt.mk ?a ?l ?c ?k; (case a => k_is); (case l => k_is); (case c => k_is); (case k => k_is))
    (case d36 => refine' Ms.DefAt.mk ?a ?l ?c ?k; (case a => k_is); (case l => k_is); (case c => k_is); (case k => k_is))
    (case d37 => refine' Ms.DefAt.mk ?a ?l ?c ?k; (case a => k_is); (case l => k_is); (case c => k_is); (case k => k_is))
    (case d38 => refine' Ms.DefAt.mk ?a ?l ?c ?k; (case a => k_is); (case l => k_is); (case c => k_is); (case k => k_is))
    (case d47 => refine' Ms.DefAt.mk ?a ?l ?c ?k; (case a => k_is); (case l => k_is); (case c => k_is); (case k => k_is))
    (case d48 => refine' Ms.DefAt.mk ?a ?l ?c ?k; (case a => k_is); (case l => k_is); (case c => k_is); (case k => k_is))
    (case d49 => refine' Ms.DefAt.mk ?a ?l ?c ?k; (case a => k_is); (case l => k_is); (case c => k_is); (case k => k_is))
    (case d50 => refine' Ms.DefAt.mk ?a ?l ?c ?k; (case a => k_is); (case l => k_is); (case c => k_is); (case k => k_is))
    (case d51 => refine' Ms.DefAt.mk ?a ?l ?c ?k; (case a => k_is); (case l => k_is); (case c => k_is); (case k => k_is))
    (case d52 => refine' Ms.DefAt.mk ?a ?l ?c ?k; (case a => k_is); (case l => k_is); (case c => k_is); (case k => k_is))
    (case d72 => refine' Ms.DefAt.mk ?a ?l ?c ?k; (case a => k_is); (case l => k_is); (case c => k_is); (case k => k_is))
    (case d73 => refine' Ms.DefAt.mk ?a ?l ?c ?k; (case a => k_is); (case l => k_is); (case c => k_is); (case k => k_is))
    (case d74 => refine' Ms.DefAt.mk ?a ?l ?c ?k; (case a => k_is); (case l => k_is); (case c => k_is); (case k => k_is))
    (case d75 => refine' Ms.DefAt.mk ?a ?l ?c ?k; (case a => k_is); (case l => k_is); (case c => k_is); (case k => k_is))
    (case d76 => refine' Ms.DefAt.mk ?a ?l ?c ?k; (case a => k_is); (case l => k_is); (case c => k_is); (case k => k_is))
    (case d77 => refine' Ms.DefAt.mk ?a ?l ?c ?k; (case a => k_is); (case l => k_is); (case c => k_is); (case k => k_is))
    (case d78 => refine' Ms.DefAt.mk ?a ?l ?c ?k; (case a => k_is); (case l => k_is); (case c => k_is); (case k => k_is))
    (case d79 => refine' Ms.DefAt.mk ?a ?l ?c ?k; (case a => k_is); (case l => k_is); (case c => k_is); (case k => k_is))
    (case d80 => refine' Ms.DefAt.mk ?a ?l ?c ?k; (case a => k_is); (case l => k_is); (case c => k_is); (case k => k_is))
    (case d81 => refine' Ms.DefAt.mk ?a ?l ?c ?k; (case a => k_is); (case l => k_is); (case c => k_is); (case k => k_is))
    (case d82 => refine' Ms.DefAt.mk ?a ?l ?c ?k; (case a => k_is); (case l => k_is); (case c => k_is); (case k => k_is))
    (case d83 => refine' Ms.DefAt.mk ?a ?l ?c ?k; (case a => k_is); (case l => k_is); (case c => k_is); (case k => k_is))
    (case d84 => refine' Ms.DefAt.mk ?a ?l ?c ?k; (case a => k_is); (case l => k_is); (case c => k_is); (case k => k_is))
    (case d85 => refine' Ms.DefAt.mk ?a ?l ?c ?k; (case a => k_is); (case l => k_is); (case c => k_is); (case k => k_is))
    (case d86 => refine' Ms.DefAt.mk ?a ?l ?c ?k; (case a => k_is); (case l => k_is); (case c => k_is); (case k => k_is))
    (case d87 => refine' Ms.DefAt.mk ?a ?l ?c ?k; (case a => k_is); (case l => k_is); (case c => k_is); (case k => k_is))
    (case d88 => refine' Ms.DefAt.mk ?a ?l ?c ?k; (case a => k_is); (case l => k_is); (case c => k_is); (case k => k_is))
    (case d89 => refine' Ms.DefAt.mk ?a ?l ?c ?k; (case a => k_is); (case l => k_is); (case c => k_is); (case k => k_is))
    (case d90 => refine' Ms.DefAt.mk ?a ?l ?c ?k; (case a => k_is); (case l => k_is); (case c => k_is); (case k => k_is))
    (case p0 => k_is)
    (case p1 => k_is)
    (case p2 => k_is)
    (case p3 => k_is)
    (case p4 => k_is)
    (case p5 => k_is)
    (case p6 => k_is)
    (case p7 => k_is)
    (case p8 => k_is)
    (case p9 => k_is)
    (case p10 => k_is)
    (case p11 => k_is)
    (case p12 => k_is)
    (case p13 => k_is)
    (case p14 => k_is)
    (case p15 => k_is)
    (case p16 => k_is)
    (case p17 => k_is)
    (case p18 => k_is)
    (case p19 => k_is)
    (case p20 => k_is)
    (case p21 => k_is)
    (case p22 => k_is)
    (case p23 => k_is)
    (case p24 => k_is)
    (case p25 => k_is)
    (case p26 => k_is)
    (case p27 => k_is)
    (case p28 => k_is)
    (case p29 => k_is)
    (case p30 => k_is)
    (case p31 => k_is)
    (case p32 => k_is)
    (case p33 => k_is)
    (case p34 => k_is)
    (case p35 => k_is)
    (case p36 => k_is)
  case S =>
    intro K J H c a hwi hask hJ hA
    have q : ((Codec.inLen 0 16000 a.1 && a.1.all (Codec.inInt _ _)) && true) = true := hwi
    rw [Bool.and_eq_true, Bool.and_eq_true] at q
    exact Ms.all_sp hask (Codec.inNat_iff.mp q.1.1).2 hJ hA
end
