import PyProof.Rows.All
import Wide.All
import OpenK.AllK
import Wide.FinOn
import HandS.ForMost
import HandS.Walk
import HandS.More
import HandS.Flow
import HandS.Style
import HandS.IsInst
import HandS.Defaults
import HandS.MakeKwOnly
import HandS.CallLocal
import HandS.DictComp
import HandS.SetBool
import HandS.TupAny
import HandS.SetFor
import PyProof.ReprRoads
import HandS.Codes
import PySem.Challenge.RW_plancalls_k17_whole_labels_and_histories
set_option Elab.async false
set_option linter.all false
set_option maxHeartbeats 4000000
/-! plain mathematics of asks, labels and keepings; no program in sight -/
namespace K17
open PySem
structure Ask where
  st : Int
  fn : Str
  args : List Int
  val : Int
/-- the same function of equal arguments -/
def same (a b : Ask) : Bool := decide (a.fn = b.fn ∧ a.args = b.args)
def near (kd : Str) (a b : Ask) : Bool := decide (kd = "fixed") || (decide (kd = "stable") && decide (a.st = b.st))
/-- two asks of a function of the kind must have one value -/
def agree (kd : Str) (a b : Ask) : Bool := near kd a b && same a b
theorem same_symm (a b : Ask) : same a b = same b a := by
  unfold same
  rw [decide_eq_decide]
  exact ⟨fun h => ⟨h.1.symm, h.2.symm⟩, fun h => ⟨h.1.symm, h.2.symm⟩⟩
def badAt (f kd : Str) (a b : Ask) : Bool := (decide (b.fn = f) && agree kd a b) && decide (a.val ≠ b.val)
/-- the least i below j that shows with j that the function is not of the kind -/
def firstI (ks : List Ask) (f kd : Str) (b : Ask) (j : Nat) : Option Nat := (List.range j).find? fun i => match ks[i]? with
  | some a => badAt f kd a b
  | none => false
def firstJ (ks : List Ask) (f kd : Str) (j : Nat) : Option (Nat × Nat) := match ks[j]? with
  | some b => (firstI ks f kd b j).map fun i => (i, j)
  | none => none
def refute (ks : List Ask) (f kd : Str) : Option (Nat × Nat) := (List.range ks.length).findSome? (firstJ ks f kd)
theorem find_range_hit {p : Nat → Bool} {n i : Nat} (hi : i < n) (h : p i = true) (hb : ∀ k, k < i → p k = false) : (List.range n).find? p = some i := by
  rw [List.find?_range_eq_some]
  refine ⟨h, by simpa using hi, fun k hk => ?_⟩
  rw [hb k hk]
  rfl
theorem find_range_miss {p : Nat → Bool} {n : Nat} (hb : ∀ k, k < n → p k = false) : (List.range n).find? p = none := by
  rw [List.find?_eq_none]
  intro k hk
  rw [hb k (List.mem_range.mp hk)]
  exact Bool.false_ne_true
theorem some_range_hit {α : Type} {p : Nat → Option α} {x : α} : ∀ {n i : Nat}, i < n → p i = some x → (∀ k, k < i → p k = none) → (List.range n).findSome? p = some x
  | n + 1, i, hi, h, hb => by
    rw [List.range_succ, List.findSome?_append]
    by_cases e : i < n
    · rw [some_range_hit e h hb]
      rfl
    · have e2 : i = n := by omega
      subst e2
      have : (List.range i).findSome? p = none := by
        rw [List.findSome?_eq_none_iff]
        exact fun k hk => hb k (List.mem_range.mp hk)
      rw [this]
      simp [h]
theorem some_range_miss {α : Type} {p : Nat → Option α} {n : Nat} (hb : ∀ k, k < n → p k = none) : (List.range n).findSome? p = none := by
  rw [List.findSome?_eq_none_iff]
  exact fun k hk => hb k (List.mem_range.mp hk)
theorem refute_hit {ks : List Ask} {f kd : Str} {i j : Nat} (hj : j < ks.length) (h : firstJ ks f kd j = some (i, j)) (hb : ∀ k, k < j → firstJ ks f kd k = none) : refute ks f kd = some (i, j) := some_range_hit hj h hb
theorem refute_miss {ks : List Ask} {f kd : Str} (hb : ∀ k, k < ks.length → firstJ ks f kd k = none) : refute ks f kd = none := some_range_miss hb
theorem firstJ_none {ks : List Ask} {f kd : Str} {j : Nat} {b : Ask} (hb : ks[j]? = some b) (h : ∀ (i : Nat) (a : Ask), i < j → ks[i]? = some a → badAt f kd a b = false) : firstJ ks f kd j = none := by
  unfold firstJ
  rw [hb]
  show (firstI ks f kd b j).map _ = none
  have : firstI ks f kd b j = none := find_range_miss fun k hk => by
    cases e : ks[k]? with
    | none => rfl
    | some a => exact h k a hk e
  rw [this]
  rfl
theorem firstJ_some {ks : List Ask} {f kd : Str} {i j : Nat} {a b : Ask} (hb : ks[j]? = some b) (ha : ks[i]? = some a) (hi : i < j) (hab : badAt f kd a b = true)
    (h : ∀ (k : Nat) (c : Ask), k < i → ks[k]? = some c → badAt f kd c b = false) : firstJ ks f kd j = some (i, j) := by
  unfold firstJ
  rw [hb]
  show (firstI ks f kd b j).map _ = some (i, j)
  have : firstI ks f kd b j = some i := find_range_hit hi (by rw [ha]; exact hab) fun k hk => by
    cases e : ks[k]? with
    | none => rfl
    | some c => exact h k c hk e
  rw [this]
  rfl
theorem refute_none {ks : List Ask} {f kd : Str} (h : refute ks f kd = none) {i j : Nat} {a b : Ask} (hi : i < j) (ha : ks[i]? = some a) (hb : ks[j]? = some b) : badAt f kd a b = false := by
  have hj : j < ks.length := (List.getElem?_eq_some_iff.mp hb).1
  have h1 : firstJ ks f kd j = none := List.findSome?_eq_none_iff.mp h j (List.mem_range.mpr hj)
  unfold firstJ at h1
  rw [hb] at h1
  have h2 : firstI ks f kd b j = none := by simpa using h1
  have h3 := List.find?_eq_none.mp h2 i (List.mem_range.mpr hi)
  rw [ha] at h3
  cases e : badAt f kd a b with
  | false => rfl
  | true => exact absurd e h3
theorem refute_of {ks : List Ask} {f kd : Str} (h : ∀ (i j : Nat) (a b : Ask), i < j → ks[i]? = some a → ks[j]? = some b → badAt f kd a b = false) : refute ks f kd = none :=
  refute_miss fun j hj => firstJ_none (List.getElem?_eq_getElem hj) fun i a hi ha => h i j a _ hi ha (List.getElem?_eq_getElem hj)
theorem refute_lt {ks : List Ask} {f kd : Str} {i j : Nat} (h : refute ks f kd = some (i, j)) : i < j ∧ j < ks.length := by
  obtain ⟨l1, y, l2, e, h1, _⟩ := List.findSome?_eq_some_iff.mp h
  have hy : y < ks.length := List.mem_range.mp (by rw [e]; simp)
  unfold firstJ at h1
  cases hb : ks[y]? with
  | none => rw [hb] at h1; cases h1
  | some b =>
    rw [hb] at h1
    obtain ⟨i', h2, h3⟩ := Option.map_eq_some_iff.mp h1
    injection h3 with e1 e2
    subst e1 e2
    exact ⟨List.mem_range.mp (List.mem_of_find?_eq_some h2), hy⟩
def fitsB (ks : List Ask) (f kd : Str) : Bool := (refute ks f kd).isNone
abbrev KN : List Str := ["fixed", "stable", "changing", "effect"]
def bound (ks : List Ask) (f : Str) : Str := ((KN.filter (fitsB ks f)).head?).getD "changing"
theorem near_not {kd : Str} (h1 : kd ≠ "fixed") (h2 : kd ≠ "stable") (a b : Ask) : near kd a b = false := by
  unfold near
  rw [decide_eq_false h1, decide_eq_false h2]
  rfl
theorem fits_free {ks : List Ask} {f kd : Str} (h1 : kd ≠ "fixed") (h2 : kd ≠ "stable") : fitsB ks f kd = true := by
  unfold fitsB
  rw [refute_of fun i j a b _ _ _ => ?_]
  · rfl
  · unfold badAt agree
    rw [near_not h1 h2]
    simp
theorem ne_cf : ("changing" : Str) ≠ "fixed" := by decide +kernel
theorem ne_cs : ("changing" : Str) ≠ "stable" := by decide +kernel
theorem ne_sf : ("stable" : Str) ≠ "fixed" := by decide +kernel
theorem ne_ec : ("effect" : Str) ≠ "changing" := by decide +kernel
theorem fits_changing (ks : List Ask) (f : Str) : fitsB ks f "changing" = true := fits_free ne_cf ne_cs
theorem bound_list (ks : List Ask) (f : Str) : ∃ r, KN.filter (fitsB ks f) = bound ks f :: r := by
  have h : KN.filter (fitsB ks f) ≠ [] := fun e => by
    have : ("changing" : Str) ∈ KN.filter (fitsB ks f) := List.mem_filter.mpr ⟨by simp, fits_changing ks f⟩
    rw [e] at this
    cases this
  unfold bound
  cases e : KN.filter (fitsB ks f) with
  | nil => exact absurd e h
  | cons x r => exact ⟨r, rfl⟩
theorem bound_mem (ks : List Ask) (f : Str) : bound ks f ∈ KN ∧ fitsB ks f (bound ks f) = true := by
  obtain ⟨r, e⟩ := bound_list ks f
  have : bound ks f ∈ KN.filter (fitsB ks f) := by rw [e]; simp
  exact List.mem_filter.mp this
theorem bound_cases (ks : List Ask) (f : Str) : (bound ks f = "fixed") ∨ (bound ks f = "stable" ∧ fitsB ks f "fixed" = false) ∨ (bound ks f = "changing" ∧ fitsB ks f "fixed" = false ∧ fitsB ks f "stable" = false) := by
  have hc := fits_changing ks f
  unfold bound
  cases h1 : fitsB ks f "fixed" with
  | true =>
    left
    simp [List.filter, h1]
  | false =>
    cases h2 : fitsB ks f "stable" with
    | true =>
      right
      left
      simp [List.filter, h1, h2]
    | false =>
      right
      right
      simp [List.filter, h1, h2, hc]
/-! ### a right history -/
def histB (kd : Str → Str) (ks : List Ask) : Bool := (List.range ks.length).all fun j => (List.range j).all fun i => match ks[i]?, ks[j]? with
  | some a, some b => !(agree (kd b.fn) a b && decide (a.val ≠ b.val))
  | _, _ => true
theorem hist_iff {kd : Str → Str} {ks : List Ask} : histB kd ks = true ↔ ∀ (i j : Nat) (a b : Ask), i < j → ks[i]? = some a → ks[j]? = some b → (agree (kd b.fn) a b && decide (a.val ≠ b.val)) = false := by
  unfold histB
  rw [List.all_eq_true]
  constructor
  · intro h i j a b hi ha hb
    have hj : j < ks.length := (List.getElem?_eq_some_iff.mp hb).1
    have h1 := List.all_eq_true.mp (h j (List.mem_range.mpr hj)) i (List.mem_range.mpr hi)
    rw [ha, hb] at h1
    exact Bool.not_eq_true' _ |>.mp h1
  · intro h j hj
    refine List.all_eq_true.mpr fun i hi => ?_
    have hj := List.mem_range.mp hj
    have hi := List.mem_range.mp hi
    rw [List.getElem?_eq_getElem (show i < ks.length by omega), List.getElem?_eq_getElem hj]
    have := h i j _ _ hi (List.getElem?_eq_getElem (show i < ks.length by omega)) (List.getElem?_eq_getElem hj)
    simp only [this]
    rfl
theorem hist_false {kd : Str → Str} {ks : List Ask} {i j : Nat} {a b : Ask} (hi : i < j) (ha : ks[i]? = some a) (hb : ks[j]? = some b) (h : (agree (kd b.fn) a b && decide (a.val ≠ b.val)) = true) : histB kd ks = false := by
  cases e : histB kd ks with
  | false => rfl
  | true =>
    have := hist_iff.mp e i j a b hi ha hb
    rw [h] at this
    cases this
theorem agree_fn {kd : Str} {a b : Ask} (h : agree kd a b = true) : a.fn = b.fn ∧ a.args = b.args := by
  unfold agree same at h
  rw [Bool.and_eq_true] at h
  exact of_decide_eq_true h.2
theorem badAt_true {f kd : Str} {a b : Ask} : badAt f kd a b = true ↔ b.fn = f ∧ agree kd a b = true ∧ a.val ≠ b.val := by
  unfold badAt
  rw [Bool.and_eq_true, Bool.and_eq_true, decide_eq_true_eq, decide_eq_true_eq, and_assoc]
/-- a history is right exactly if no label is wrong -/
theorem hist_labels {kd : Str → Str} {ks : List Ask} {ns : List Str} (hn : ∀ a ∈ ks, a.fn ∈ ns) : histB kd ks = true ↔ ∀ f ∈ ns, fitsB ks f (kd f) = true := by
  rw [hist_iff]
  constructor
  · intro h f _
    unfold fitsB
    rw [refute_of fun i j a b hi ha hb => ?_]
    · rfl
    · have := h i j a b hi ha hb
      cases e : badAt f (kd f) a b with
      | false => rfl
      | true =>
        obtain ⟨e1, e2, e3⟩ := badAt_true.mp e
        subst e1
        rw [e2, decide_eq_true e3] at this
        cases this
  · intro h i j a b hi ha hb
    have hf := h b.fn (hn b (List.mem_of_getElem? hb))
    unfold fitsB at hf
    have h0 := refute_none (Option.isNone_iff_eq_none.mp hf) hi ha hb
    cases e : (agree (kd b.fn) a b && decide (a.val ≠ b.val)) with
    | false => rfl
    | true =>
      rw [Bool.and_eq_true] at e
      have : badAt b.fn (kd b.fn) a b = true := badAt_true.mpr ⟨rfl, e.1, of_decide_eq_true e.2⟩
      rw [h0] at this
      cases this
theorem fits_unused {ks : List Ask} {f kd : Str} (h : ∀ a ∈ ks, a.fn ≠ f) : fitsB ks f kd = true := by
  unfold fitsB
  rw [refute_of fun i j a b hi ha hb => ?_]
  · rfl
  · cases e : badAt f kd a b with
    | false => rfl
    | true =>
      obtain ⟨e1, _⟩ := badAt_true.mp e
      exact absurd e1 (h b (List.mem_of_getElem? hb))
/-! ### stores -/
/-- the keeping of a kind -/
def lastOf (kd : Str) : Str := if kd = "fixed" then "ever" else if kd = "stable" then "statement" else "never"
def keptB (sp : Str) (a b : Ask) : Bool := same a b && (decide (sp = "ever") || (decide (sp = "statement") && decide (a.st = b.st)))
/-- the last of the first n asks whose answer is kept for b -/
def lastI (ks : List Ask) (sp : Str) (b : Ask) : Nat → Option Nat
  | 0 => none
  | n + 1 => match ks[n]? with
    | some a => if keptB sp a b = true then some n else lastI ks sp b n
    | none => lastI ks sp b n
theorem lastI_some {ks : List Ask} {sp : Str} {b : Ask} : ∀ {n i : Nat}, lastI ks sp b n = some i → i < n ∧ ∃ a, ks[i]? = some a ∧ keptB sp a b = true
  | 0, _, h => by cases h
  | n + 1, i, h => by
    unfold lastI at h
    cases e : ks[n]? with
    | none =>
      rw [e] at h
      obtain ⟨h1, h2⟩ := lastI_some (n := n) h
      exact ⟨by omega, h2⟩
    | some a =>
      rw [e] at h
      dsimp only at h
      split at h
      · rename_i hk
        injection h with h
        subst h
        exact ⟨by omega, a, e, hk⟩
      · obtain ⟨h1, h2⟩ := lastI_some (n := n) h
        exact ⟨by omega, h2⟩
theorem lastI_none {ks : List Ask} {sp : Str} {b : Ask} : ∀ {n : Nat}, lastI ks sp b n = none ↔ ∀ (i : Nat) (a : Ask), i < n → ks[i]? = some a → keptB sp a b = false
  | 0 => ⟨fun _ i _ h => absurd h (Nat.not_lt_zero _), fun _ => rfl⟩
  | n + 1 => by
    unfold lastI
    have ih := lastI_none (ks := ks) (sp := sp) (b := b) (n := n)
    cases e : ks[n]? with
    | none =>
      dsimp only
      rw [ih]
      exact ⟨fun h i a hi ha => h i a (by
        rcases Nat.lt_succ_iff_lt_or_eq.mp hi with z | z
        · exact z
        · rw [z, e] at ha; cases ha) ha, fun h i a hi ha => h i a (by omega) ha⟩
    | some c =>
      dsimp only
      by_cases hk : keptB sp c b = true
      · rw [if_pos hk]
        exact ⟨fun h => (by cases h), fun h => (by rw [h n c (by omega) e] at hk; cases hk)⟩
      · rw [if_neg hk, ih]
        have hk : keptB sp c b = false := by simpa using hk
        exact ⟨fun h i a hi ha => by
          rcases Nat.lt_succ_iff_lt_or_eq.mp hi with z | z
          · exact h i a z ha
          · subst z
            rw [e] at ha
            cases ha
            exact hk, fun h i a hi ha => h i a (by omega) ha⟩
theorem ne_se : ("statement" : Str) ≠ "ever" := by decide +kernel
theorem ne_ne : ("never" : Str) ≠ "ever" := by decide +kernel
theorem ne_ns : ("never" : Str) ≠ "statement" := by decide +kernel
/-- the longest keeping that is right keeps exactly what must agree -/
theorem kept_agree (kd : Str) (a b : Ask) : keptB (lastOf kd) a b = agree kd a b := by
  unfold keptB agree near lastOf
  by_cases h1 : kd = "fixed"
  · subst h1
    simp
  · by_cases h2 : kd = "stable"
    · subst h2
      simp [ne_sf, ne_se, Bool.and_comm]
    · simp [h1, h2, ne_ne, ne_ns]
end K17
set_option Elab.async false
set_option linter.all false
set_option maxRecDepth 100000
set_option maxHeartbeats 4000000
namespace K17
open PySem PySem.Spec PyProof.Rows L2
/-! ### the text by places -/
def topS (i : Nat) : Stmt := PySem.Challenge.pw_plancalls_k17_whole_labels_and_histories.main.body.getD i (.Pass ⟨0, 0, 0, 0⟩)
abbrev sIsInt : Stmt := topS 5
abbrev sIsName : Stmt := topS 6
abbrev sIsKind : Stmt := topS 7
abbrev sIsRow : Stmt := topS 8
abbrev sIsListOf : Stmt := topS 9
abbrev sMustAgree : Stmt := topS 11
abbrev sRefuting : Stmt := topS 12
abbrev sFits : Stmt := topS 13
abbrev sMostBound : Stmt := topS 14
abbrev sWrongLabels : Stmt := topS 15
abbrev sIsShape : Stmt := topS 30
abbrev sIsDictOf : Stmt := topS 31
abbrev sIsDictOfNames : Stmt := topS 32
abbrev sInit : Stmt := inClass (topS 35) 0
abbrev sCheckKeys : Stmt := inClass (topS 35) 1
abbrev sCheckedRefs : Stmt := inClass (topS 35) 2
abbrev sCheckedMade : Stmt := inClass (topS 35) 3
abbrev sCheckRings : Stmt := inClass (topS 35) 4
abbrev sFunctions : Stmt := inClass (topS 35) 6
abbrev sArguments : Stmt := inClass (topS 35) 12
abbrev sKind : Stmt := inClass (topS 35) 13
abbrev sWithKinds : Stmt := inClass (topS 35) 16
abbrev sIsAsk : Stmt := topS 38
abbrev sAlikeAsks : Stmt := topS 39
abbrev sIsHistory : Stmt := topS 40
abbrev sEarlier : Stmt := topS 41
abbrev sTold : Stmt := topS 42
abbrev sAsked : Stmt := topS 43
abbrev sLasting : Stmt := topS 44
abbrev sBag : Stmt := topS 46
abbrev sTake : Stmt := topS 47
abbrev sAlike : Stmt := topS 48
abbrev sLabels : Stmt := topS 49
abbrev sAsks : Stmt := topS 50
abbrev sDrawn : Stmt := topS 51
abbrev sKeptRight : Stmt := topS 52
abbrev sLaw : Stmt := topS 53
abbrev nIsInt : List Str := ["thing"]
abbrev pIsInt : List Str := ["thing"]
theorem scIsInt : FnScope nIsInt pIsInt (defScope sIsInt) :=
  ⟨rfl, rfl, rfl, by decide +kernel, rfl, by decide +kernel, by decide +kernel⟩
abbrev nIsName : List Str := ["thing", "sign"]
abbrev pIsName : List Str := ["thing"]
theorem scIsName : FnScope nIsName pIsName (defScope sIsName) :=
  ⟨rfl, rfl, rfl, by decide +kernel, rfl, by decide +kernel, by decide +kernel⟩
abbrev nIsKind : List Str := ["thing"]
abbrev pIsKind : List Str := ["thing"]
theorem scIsKind : FnScope nIsKind pIsKind (defScope sIsKind) :=
  ⟨rfl, rfl, rfl, by decide +kernel, rfl, by decide +kernel, by decide +kernel⟩
abbrev nIsRow : List Str := ["many", "thing", "one"]
abbrev pIsRow : List Str := ["many", "thing"]
theorem scIsRow : FnScope nIsRow pIsRow (defScope sIsRow) :=
  ⟨rfl, rfl, rfl, by decide +kernel, rfl, by decide +kernel, by decide +kernel⟩
abbrev nIsListOf : List Str := ["judge", "thing", "one"]
abbrev pIsListOf : List Str := ["judge", "thing"]
theorem scIsListOf : FnScope nIsListOf pIsListOf (defScope sIsListOf) :=
  ⟨rfl, rfl, rfl, by decide +kernel, rfl, by decide +kernel, by decide +kernel⟩
abbrev nMustAgree : List Str := ["kind", "one", "other"]
abbrev pMustAgree : List Str := ["kind", "one", "other"]
theorem scMustAgree : FnScope nMustAgree pMustAgree (defScope sMustAgree) :=
  ⟨rfl, rfl, rfl, by decide +kernel, rfl, by decide +kernel, by decide +kernel⟩
abbrev nRefuting : List Str := ["uses", "function", "kind", "j", "later", "i", "ahead"]
abbrev pRefuting : List Str := ["uses", "function", "kind"]
theorem scRefuting : FnScope nRefuting pRefuting (defScope sRefuting) :=
  ⟨rfl, rfl, rfl, by decide +kernel, rfl, by decide +kernel, by decide +kernel⟩
abbrev nFits : List Str := ["uses", "function", "kind"]
abbrev pFits : List Str := ["uses", "function", "kind"]
theorem scFits : FnScope nFits pFits (defScope sFits) :=
  ⟨rfl, rfl, rfl, by decide +kernel, rfl, by decide +kernel, by decide +kernel⟩
abbrev nMostBound : List Str := ["uses", "found", "function", "use", "kind"]
abbrev pMostBound : List Str := ["uses"]
theorem scMostBound : FnScope nMostBound pMostBound (defScope sMostBound) :=
  ⟨rfl, rfl, rfl, by decide +kernel, rfl, by decide +kernel, by decide +kernel⟩
abbrev nWrongLabels : List Str := ["schema", "uses", "found", "function", "kind"]
abbrev pWrongLabels : List Str := ["schema", "uses"]
theorem scWrongLabels : FnScope nWrongLabels pWrongLabels (defScope sWrongLabels) :=
  ⟨rfl, rfl, rfl, by decide +kernel, rfl, by decide +kernel, by decide +kernel⟩
abbrev nIsShape : List Str := ["thing"]
abbrev pIsShape : List Str := ["thing"]
theorem scIsShape : FnScope nIsShape pIsShape (defScope sIsShape) :=
  ⟨rfl, rfl, rfl, by decide +kernel, rfl, by decide +kernel, by decide +kernel⟩
abbrev nIsDictOf : List Str := ["judge", "thing", "name", "one"]
abbrev pIsDictOf : List Str := ["judge", "thing"]
theorem scIsDictOf : FnScope nIsDictOf pIsDictOf (defScope sIsDictOf) :=
  ⟨rfl, rfl, rfl, by decide +kernel, rfl, by decide +kernel, by decide +kernel⟩
abbrev nIsDictOfNames : List Str := ["thing", "name", "one"]
abbrev pIsDictOfNames : List Str := ["thing"]
theorem scIsDictOfNames : FnScope nIsDictOfNames pIsDictOfNames (defScope sIsDictOfNames) :=
  ⟨rfl, rfl, rfl, by decide +kernel, rfl, by decide +kernel, by decide +kernel⟩
abbrev nInit : List Str := ["self", "tables", "functions", "keys", "references", "made", "table", "columns"]
abbrev pInit : List Str := ["self", "tables", "functions", "keys", "references", "made"]
theorem scInit : FnScope nInit pInit (defScope sInit) :=
  ⟨rfl, rfl, rfl, by decide +kernel, rfl, by decide +kernel, by decide +kernel⟩
abbrev nCheckKeys : List Str := ["self", "table"]
abbrev pCheckKeys : List Str := ["self"]
theorem scCheckKeys : FnScope nCheckKeys pCheckKeys (defScope sCheckKeys) :=
  ⟨rfl, rfl, rfl, by decide +kernel, rfl, by decide +kernel, by decide +kernel⟩
abbrev nCheckedRefs : List Str := ["self", "references", "at", "table", "column", "target"]
abbrev pCheckedRefs : List Str := ["self", "references"]
theorem scCheckedRefs : FnScope nCheckedRefs pCheckedRefs (defScope sCheckedRefs) :=
  ⟨rfl, rfl, rfl, by decide +kernel, rfl, by decide +kernel, by decide +kernel⟩
abbrev nCheckedMade : List Str := ["self", "made", "known", "table", "column", "bound", "at", "function", "columns", "there", "target", "one"]
abbrev pCheckedMade : List Str := ["self", "made"]
theorem scCheckedMade : FnScope nCheckedMade pCheckedMade (defScope sCheckedMade) :=
  ⟨rfl, rfl, rfl, by decide +kernel, rfl, by decide +kernel, by decide +kernel⟩
abbrev nCheckRings : List Str := ["self", "table", "column", "function", "columns", "row", "at", "found", "one"]
abbrev pCheckRings : List Str := ["self"]
theorem scCheckRings : FnScope nCheckRings pCheckRings (defScope sCheckRings) :=
  ⟨rfl, rfl, rfl, by decide +kernel, rfl, by decide +kernel, by decide +kernel⟩
abbrev nFunctions : List Str := ["self"]
abbrev pFunctions : List Str := ["self"]
theorem scFunctions : FnScope nFunctions pFunctions (defScope sFunctions) :=
  ⟨rfl, rfl, rfl, by decide +kernel, rfl, by decide +kernel, by decide +kernel⟩
abbrev nArguments : List Str := ["self", "function"]
abbrev pArguments : List Str := ["self", "function"]
theorem scArguments : FnScope nArguments pArguments (defScope sArguments) :=
  ⟨rfl, rfl, rfl, by decide +kernel, rfl, by decide +kernel, by decide +kernel⟩
abbrev nKind : List Str := ["self", "function"]
abbrev pKind : List Str := ["self", "function"]
theorem scKind : FnScope nKind pKind (defScope sKind) :=
  ⟨rfl, rfl, rfl, by decide +kernel, rfl, by decide +kernel, by decide +kernel⟩
abbrev nWithKinds : List Str := ["self", "changes", "function", "shapes", "rows", "made", "row", "name", "many", "kind"]
abbrev pWithKinds : List Str := ["self", "changes"]
theorem scWithKinds : FnScope nWithKinds pWithKinds (defScope sWithKinds) :=
  ⟨rfl, rfl, rfl, by decide +kernel, rfl, by decide +kernel, by decide +kernel⟩
abbrev nIsAsk : List Str := ["schema", "thing"]
abbrev pIsAsk : List Str := ["schema", "thing"]
theorem scIsAsk : FnScope nIsAsk pIsAsk (defScope sIsAsk) :=
  ⟨rfl, rfl, rfl, by decide +kernel, rfl, by decide +kernel, by decide +kernel⟩
abbrev nAlikeAsks : List Str := ["kind", "one", "other"]
abbrev pAlikeAsks : List Str := ["kind", "one", "other"]
theorem scAlikeAsks : FnScope nAlikeAsks pAlikeAsks (defScope sAlikeAsks) :=
  ⟨rfl, rfl, rfl, by decide +kernel, rfl, by decide +kernel, by decide +kernel⟩
abbrev nIsHistory : List Str := ["schema", "thing", "ask", "at", "kind", "one", "other"]
abbrev pIsHistory : List Str := ["schema", "thing"]
theorem scIsHistory : FnScope nIsHistory pIsHistory (defScope sIsHistory) :=
  ⟨rfl, rfl, rfl, by decide +kernel, rfl, by decide +kernel, by decide +kernel⟩
abbrev nEarlier : List Str := ["keepings", "history", "at", "ask", "found", "span", "before", "one"]
abbrev pEarlier : List Str := ["keepings", "history", "at"]
theorem scEarlier : FnScope nEarlier pEarlier (defScope sEarlier) :=
  ⟨rfl, rfl, rfl, by decide +kernel, rfl, by decide +kernel, by decide +kernel⟩
abbrev nTold : List Str := ["schema", "keepings", "history", "found", "at", "ask", "before"]
abbrev pTold : List Str := ["schema", "keepings", "history"]
theorem scTold : FnScope nTold pTold (defScope sTold) :=
  ⟨rfl, rfl, rfl, by decide +kernel, rfl, by decide +kernel, by decide +kernel⟩
abbrev nAsked : List Str := ["schema", "keepings", "history", "at"]
abbrev pAsked : List Str := ["schema", "keepings", "history"]
theorem scAsked : FnScope nAsked pAsked (defScope sAsked) :=
  ⟨rfl, rfl, rfl, by decide +kernel, rfl, by decide +kernel, by decide +kernel⟩
abbrev nLasting : List Str := ["kind"]
abbrev pLasting : List Str := ["kind"]
theorem scLasting : FnScope nLasting pLasting (defScope sLasting) :=
  ⟨rfl, rfl, rfl, by decide +kernel, rfl, by decide +kernel, by decide +kernel⟩
abbrev nBag : List Str := ["_law_script", "_law_cell"]
abbrev pBag : List Str := ["_law_script"]
theorem scBag : FnScope nBag pBag (defScope sBag) :=
  ⟨rfl, rfl, rfl, by decide +kernel, rfl, by decide +kernel, by decide +kernel⟩
abbrev nTake : List Str := ["_law_bag_here", "_law_many", "_law_cell", "_law_mixed", "_law_value", "_law_begin", "_law_second"]
abbrev pTake : List Str := ["_law_bag_here", "_law_many"]
theorem scTake : FnScope nTake pTake (defScope sTake) :=
  ⟨rfl, rfl, rfl, by decide +kernel, rfl, by decide +kernel, by decide +kernel⟩
abbrev nAlike : List Str := ["_law_found", "_law_due"]
abbrev pAlike : List Str := ["_law_found", "_law_due"]
theorem scAlike : FnScope nAlike pAlike (defScope sAlike) :=
  ⟨rfl, rfl, rfl, by decide +kernel, rfl, by decide +kernel, by decide +kernel⟩
abbrev nLabels : List Str := ["_law_bag_here", "_law_many", "_law_letters", "_law_words", "_law_way", "_law_turn", "_law_base", "_law_k"]
abbrev pLabels : List Str := ["_law_bag_here", "_law_many"]
theorem scLabels : FnScope nLabels pLabels (defScope sLabels) :=
  ⟨rfl, rfl, rfl, by decide +kernel, rfl, by decide +kernel, by decide +kernel⟩
abbrev nAsks : List Str := ["_law_bag_here", "_law_functions", "_law_many", "_law_names", "_law_found", "_law_now", "_law_k", "_law_name", "_law_arguments", "_law_one"]
abbrev pAsks : List Str := ["_law_bag_here", "_law_functions", "_law_many"]
theorem scAsks : FnScope nAsks pAsks (defScope sAsks) :=
  ⟨rfl, rfl, rfl, by decide +kernel, rfl, by decide +kernel, by decide +kernel⟩
abbrev nDrawn : List Str := ["_law_bag_here", "_law_names", "_law_kinds", "_law_functions", "_law_keepings", "_law_name", "_law_span"]
abbrev pDrawn : List Str := ["_law_bag_here"]
theorem scDrawn : FnScope nDrawn pDrawn (defScope sDrawn) :=
  ⟨rfl, rfl, rfl, by decide +kernel, rfl, by decide +kernel, by decide +kernel⟩
abbrev nKeptRight : List Str := ["_law_functions", "_law_schema", "_law_history", "_law_name", "_law_keepings", "_law_first", "_law_at", "_law_statement", "_law_arguments", "_law_value", "_law_kind", "_law_is_new", "_law_one", "_law_is_near", "_law_ask"]
abbrev pKeptRight : List Str := ["_law_functions", "_law_schema", "_law_history"]
theorem scKeptRight : FnScope nKeptRight pKeptRight (defScope sKeptRight) :=
  ⟨rfl, rfl, rfl, by decide +kernel, rfl, by decide +kernel, by decide +kernel⟩
abbrev nLaw : List Str := ["_law_script", "_law_bag_here", "_law_turn", "_law_functions", "_law_schema", "_law_keepings", "_law_history", "_law_bound_kinds", "_law_fitting", "_law_name", "_law_kinds", "_law_kind", "_law_other", "_law_due"]
abbrev pLaw : List Str := ["_law_script"]
theorem scLaw : FnScope nLaw pLaw (defScope sLaw) :=
  ⟨rfl, rfl, rfl, by decide +kernel, rfl, by decide +kernel, by decide +kernel⟩
/-! ### heaps -/
theorem sm_put {H0 H : Hp} {p : Addr} {o : HO} (s : Same H0 H) (n : H0 p = none) : Same H0 (upd H p o) := fun b u e => by
  rw [upd_ne (ne_of_none e n)]
  exact s b u e
theorem sm_new {H0 H : Hp} {p : Addr} {o : HO} (s : Same H0 H) (n : H p = none) : Same H0 (upd H p o) := sm_put s (s.free n)
theorem keep1 {H : Hp} {a p : Addr} {o u : HO} (h : H a = some o) (n : H p = none) : (upd H p u) a = some o := (upd_ne (ne_of_none h n)).trans h
theorem SqT.same {K : PySem.W.Frag} {H H' : Hp} {a : Addr} {xs : List V} (e : Same H H') (h : SqT K H a xs) : SqT K H' a xs := by
  rcases h with (hd | ⟨o, hd⟩) | hk
  · exact .inl (.inl (e _ _ hd))
  · exact .inl (.inr ⟨o, e _ _ hd⟩)
  · exact .inr hk
mutual
theorem dp_same {K : PySem.W.Frag} {H H' : Hp} (e : Same H H') : ∀ {v : V} {d : PyData}, Dp K H v d → Dp K H' v d
  | _, _, .non => .non
  | _, _, .bl b => .bl b
  | _, _, .int i => .int i
  | _, _, .str x => .str x
  | _, _, .lst h a => .lst (e.seq h) (dpa_same e a)
  | _, _, .tup h a => .tup (SqT.same e h) (dpa_same e a)
theorem dpa_same {K : PySem.W.Frag} {H H' : Hp} (e : Same H H') : ∀ {vs : List V} {ds : List PyData}, DpAll K H vs ds → DpAll K H' vs ds
  | _, _, .nil => .nil
  | _, _, .cons a b => .cons (dp_same e a) (dpa_same e b)
end
theorem dpa_ints {K : PySem.W.Frag} {H : Hp} : ∀ ns : List Int, DpAll K H (ns.map V.int) (ns.map PyData.int)
  | [] => .nil
  | i :: r => .cons (.int i) (dpa_ints r)
theorem dpa_strs {K : PySem.W.Frag} {H : Hp} : ∀ ns : List Str, DpAll K H (ns.map V.str) (ns.map PyData.str)
  | [] => .nil
  | i :: r => .cons (.str i) (dpa_strs r)
/-! ### a def of the text that keeps a promise -/
structure Cal (P : Program) (w : World) (K : PySem.W.Frag) (mg : Str → Option Value) (base : Heap) (k : Nat) (x : Str) (sp : Sp) : Prop where
  ex : ∃ (f : Addr) (fd : FuncData) (ps : List Str), FnOk P w K mg base CX0 k f fd ps sp ∧ mg x = some (.ref f) ∧ PySem.W.keepIn K (.ref f) = true ∧ Binds K fd ps []
/-- a def as it stands behind the top -/
structure DefAt (K : PySem.W.Frag) (mg : Str → Option Value) (x : Str) (st : Stmt) (ps : List Str) : Prop where
  ex : ∃ (f : Addr) (fd : FuncData), Fun K x x st f fd ∧ mg x = some (.ref f) ∧ Binds K fd ps []
/-- a method that the class at C has -/
structure MetAt (K : PySem.W.Frag) (C : Addr) (m qual : Str) (st : Stmt) (ps : List Str) : Prop where
  ex : ∃ (f : Addr) (fd : FuncData), Fun K m qual st f fd ∧ Meth K C m f ∧ Binds K fd ps []
structure Met (P : Program) (w : World) (K : PySem.W.Frag) (mg : Str → Option Value) (base : Heap) (k : Nat) (C : Addr) (m : Str) (sp : Sp) : Prop where
  ex : ∃ (f : Addr) (fd : FuncData) (ps : List Str), FnOk P w K mg base CX0 k f fd ps sp ∧ Meth K C m f ∧ Binds K fd ps []
section
variable {base : Heap} {mg : Str → Option Value} {K : PySem.W.Frag} {w : World} {P : Program}
theorem DefAt.cal {x : Str} {st : Stmt} {N ps : List Str} {k : Nat} {sp : Sp} (D : DefAt K mg x st ps) (S : FnScope N ps (defScope st)) (len : ∀ vs H Q E, sp vs H Q E → vs.length = ps.length)
    (body : ∀ (cdv : Value) (f : Addr) (A : Around) (outer : List Env) (s : Shared) (H : Hp) (vs : List V) (Q : VK) (E : XK),
      Room k (A.deeper (envOfC x (defScope st) s.heap.objs.size f cdv)) → sp vs H Q E →
      ∃ t, PSs (cxOf CX0 P w K mg base N x (defScope st) f cdv A outer s H E).nox (defBody st) t ∧
        t { nx := fun _ H' => Q .non H', rt := Q } (start N vs) H) : Cal P w K mg base (k + 1) x sp := by
  obtain ⟨f, fd, F, m, b⟩ := D.ex
  exact ⟨f, fd, ps, F.ok S len fun cdv A outer s H vs Q E => body cdv f A outer s H vs Q E, m, F.kp, b⟩
theorem MetAt.met {C : Addr} {m qual : Str} {st : Stmt} {N ps : List Str} {k : Nat} {sp : Sp} (D : MetAt K C m qual st ps) (S : FnScope N ps (defScope st)) (len : ∀ vs H Q E, sp vs H Q E → vs.length = ps.length)
    (body : ∀ (cdv : Value) (f : Addr) (A : Around) (outer : List Env) (s : Shared) (H : Hp) (vs : List V) (Q : VK) (E : XK),
      Room k (A.deeper (envOfC qual (defScope st) s.heap.objs.size f cdv)) → sp vs H Q E →
      ∃ t, PSs (cxOf CX0 P w K mg base N qual (defScope st) f cdv A outer s H E).nox (defBody st) t ∧
        t { nx := fun _ H' => Q .non H', rt := Q } (start N vs) H) : Met P w K mg base (k + 1) C m sp := by
  obtain ⟨f, fd, F, me, b⟩ := D.ex
  exact ⟨f, fd, ps, F.ok S len fun cdv A outer s H vs Q E => body cdv f A outer s H vs Q E, me, b⟩
end
section
variable {X : Cx} {k j : Nat} {C : Addr} {x m : Str} {sp : Sp} {p pos apos : Pos} {e o : Expr} {es : List Expr} {ta : TE} {t : TA}
/-- x(e, ..) -/
theorem pe_cl (c : Cal X.prog X.w X.K X.mg X.base k x sp) (hr : Room j X.A) (hk : k ≤ j) (hg : Gl X x) (ha : PA X (e :: es) t)
    (hdb : (x == ("__debug__" : Str)) = false := by decide)
    (he : starEach (e :: es) X.env = (false, eval e X.env) :: starEach es X.env := by rfl)
    (hpl : (backTo pos (starEach es X.env)).any (·.1) = false := by rfl) : PE X (.Call (.Name x p) (e :: es) [] pos) (tCall sp [] L2.E0 t) := by
  obtain ⟨f, fd, ps, F, hm, kp, b⟩ := c.ex
  exact pe_call F (hr.mono hk) hg hm kp b .nil pass0 ha hdb he hpl
/-- o.m(e, ..) -/
theorem pe_mc {pl : Sem Bool} (c : Met X.prog X.w X.K X.mg X.base k C m sp) (cl : Cls X.K C) (hr : Room j X.A) (hk : k ≤ j) (ho : PE X o ta) (ha : PA X (e :: es) t)
    (h1 : starEach (e :: es) X.env = (false, eval e X.env) :: starEach es X.env := by rfl) (h2 : (backTo pos (starEach es X.env)).any (·.1) = false := by rfl)
    (h3 : eval (.Call (.Attribute o m apos) (e :: es) [] pos) X.env = (do
      let ov ← eval o X.env; standAt apos.atName; let (f, first) ← holding [ov] (getMethod ov m pl); callWith pos f first (backTo pos (starEach (e :: es) X.env)) (backToKw pos (keywordEach [] X.env))) := by rfl) :
    PE X (.Call (.Attribute o m apos) (e :: es) [] pos) (tMeth C m sp [] L2.E0 ta t) := by
  obtain ⟨f, fd, ps, F, hm, b⟩ := c.ex
  exact pe_meth (pl := pl) ho cl hm F (hr.mono hk) b .nil pass0 ha h1 h2 h3
/-- o.m() -/
theorem pe_mc0 {pl : Sem Bool} (c : Met X.prog X.w X.K X.mg X.base k C m sp) (cl : Cls X.K C) (hr : Room j X.A) (hk : k ≤ j) (ho : PE X o ta)
    (h3 : eval (.Call (.Attribute o m apos) [] [] pos) X.env = (do
      let ov ← eval o X.env; standAt apos.atName; let (f, first) ← holding [ov] (getMethod ov m pl); callWith pos f first (backTo pos (starEach [] X.env)) (backToKw pos (keywordEach [] X.env))) := by rfl) :
    PE X (.Call (.Attribute o m apos) [] [] pos) (tMeth C m sp [] L2.E0 ta tNil) := by
  obtain ⟨f, fd, ps, F, hm, b⟩ := c.ex
  exact pe_meth0 (pl := pl) ho cl hm F (hr.mono hk) b .nil pass0 h3
end
end K17
set_option Elab.async false
set_option linter.all false
set_option maxRecDepth 100000
set_option maxHeartbeats 4000000
namespace K17
open PySem PySem.Spec PyProof.Rows L2
/-! ### the module plancalls.kinds -/
/-- the built-in names that nothing of the text hides -/
structure Bi (mg : Str → Option Value) : Prop where
  isinstance : mg "isinstance" = none
  int : mg "int" = none
  bool : mg "bool" = none
  str : mg "str" = none
  list : mg "list" = none
  tuple : mg "tuple" = none
  dict : mg "dict" = none
  set : mg "set" = none
  len : mg "len" = none
  all : mg "all" = none
  sorted : mg "sorted" = none
  enumerate : mg "enumerate" = none
  zip : mg "zip" = none
  range : mg "range" = none
  abs : mg "abs" = none
  repr : mg "repr" = none
/-- the constants of the text -/
structure Co (K : PySem.W.Frag) (mg : Str → Option Value) : Prop where
  letters : ∃ t, mg "LETTERS" = some (.str "abcdefghijklmnopqrstuvwxyz" t)
  longest : ∃ t, mg "LONGEST_NAME" = some (.int 8 t)
  mostNames : ∃ t, mg "MOST_NAMES" = some (.int 6 t)
  mostArgs : ∃ t, mg "MOST_ARGUMENTS" = some (.int 3 t)
  kinds : ∃ a, mg "KINDS" = some (.ref a) ∧ ∀ H : Hp, SqT K H a (KN.map V.str)
abbrev isLetter (c : Nat) : Prop := c ∈ ("abcdefghijklmnopqrstuvwxyz" : Str).cps.toList
structure NameOk (z : Str) : Prop where
  low : 1 ≤ z.length
  high : z.length ≤ 8
  sign : ∀ c ∈ z.cps.toList, isLetter c
section
variable {base : Heap} {mg : Str → Option Value} {K : PySem.W.Frag} {w : World} {P : Program}
def spIsInt : Sp := fun vs H Q _ => ∃ i : Int, vs = [.int i] ∧ Q (.bl true) H
theorem cal_isInt (B : Bi mg) (D : DefAt K mg "is_integer" sIsInt pIsInt) : Cal P w K mg base 1 "is_integer" spIsInt := by
  refine D.cal (k := 0) scIsInt (fun vs H Q E h => ?_) (fun cdv f A outer s H vs Q E hr h => ?_)
  · obtain ⟨i, rfl, _⟩ := h
    rfl
  · obtain ⟨i, rfl, q⟩ := h
    refine ⟨_, pss_one (ps_ret (pe_and (pe_callB call_isi (by rfl) B.isinstance (by decide +kernel) (pa_cons (pv 0) (pa_cons (pe_bltn (v := .ty "int") (by rfl) B.int (by decide +kernel) rfl) pa_nil)))
      (pe_one (pe_not (pe_callB call_isi (by rfl) B.isinstance (by decide +kernel) (pa_cons (pv 0) (pa_cons (pe_bltn (v := .ty "bool") (by rfl) B.bool (by decide +kernel) rfl) pa_nil))))))), ?_⟩
    refine ⟨_, rfl, _, _, _, _, true, rfl, .ty _, (.base (.int i)), kit_ty (by decide +kernel), true, rfl, iteT ?_⟩
    exact ⟨_, rfl, _, _, _, _, false, rfl, .ty _, (.base (.int i)), kit_ty (by decide +kernel), false, rfl, q⟩
def spIsName : Sp := fun vs H Q _ => ∃ z : Str, vs = [.str z] ∧ NameOk z ∧ ∀ H', Same H H' → Q (.bl true) H'
theorem cal_isName (B : Bi mg) (G : Co K mg) (D : DefAt K mg "is_name" sIsName pIsName) : Cal P w K mg base 1 "is_name" spIsName := by
  refine D.cal (k := 0) scIsName (fun vs H Q E h => ?_) (fun cdv f A outer s H vs Q E hr h => ?_)
  · obtain ⟨i, rfl, _⟩ := h
    rfl
  · obtain ⟨z, rfl, ok, q⟩ := h
    obtain ⟨tl, hl⟩ := G.letters
    obtain ⟨tn, hn⟩ := G.longest
    refine ⟨_, pss_cons (ps_if (PW.pt (pw_or (pt_not (pt_val (pe_callB call_isi (by rfl) B.isinstance (by decide +kernel) (pa_cons (pv 0) (pa_cons (pe_bltn (v := .ty "str") (by rfl) B.str (by decide +kernel) rfl) pa_nil)))))
        (pw_or1 (pt_not (pt_chain op_le op_le pe_int (pe_callB call_len_str (by rfl) B.len PySem.boot_len (pa_cons (pv 0) pa_nil)) (pe_glob (v := .int 8) rfl hn ⟨_, rfl⟩))))))
        (pss_one (ps_ret pe_bl)) pss_nil)
      (pss_one (ps_ret (pe_callB (cr_all rfl) (by rfl) B.all (by decide +kernel)
        (pa_cons (pe_lc (own := [("sign", 1)]) (g := gName 1) (tt := tYes) rfl scIsName.nd (pi_str (pv 0)) (blkOk_by (N := nIsName) (sc := defScope sIsName) (by decide +kernel))
          (fun _ _ _ _ _ => pg_name (i := 1) scIsName.nd rfl (Or.inl rfl)) (fun _ _ _ _ _ => pts_nil)
          (fun _ _ _ _ _ => pe_cmpR op_in_sign (pv 1) (pe_glob (v := .str "abcdefghijklmnopqrstuvwxyz") rfl hl ⟨_, rfl⟩) rfl)) pa_nil)))), ?_⟩
    refine ⟨_, rfl, _, _, _, _, true, rfl, .ty _, (.base (.str z)), kit_ty (by decide +kernel), true, rfl, ?_⟩
    refine iteF ?_
    have h8 : z.length ≤ sizeLine := Nat.le_trans ok.high (by decide)
    refine ⟨_, rfl, z, rfl, h8, _, _, rfl, rfl, _, rfl, ?_⟩
    have e1 : decide ((1 : Int) ≤ (z.length : Int)) = true := decide_eq_true (by have := ok.low; omega)
    have e2 : decide ((z.length : Int) ≤ 8) = true := decide_eq_true (by have := ok.high; omega)
    rw [e1]
    refine iteT ⟨_, _, rfl, rfl, _, rfl, ?_⟩
    rw [e2]
    refine iteF ?_
    refine ⟨_, rfl, z, rfl, fun p hp => ?_⟩
    refine lc_it walk_str (fun i H' => Same H H' ∧ H' p = some (.lst (List.replicate i (.bl true)))) ⟨sm_new (.refl H) hp, upd_same⟩ (fun _ _ _ _ => trivial) ?_ ?_
    · rintro i x H1 H2 hi ⟨s1, e⟩ ⟨rfl, c, hc, rfl⟩
      refine ⟨rfl, _, rfl, c, _, rfl, rfl, _, e, ?_, ?_⟩
      · rw [List.length_replicate]
        exact Nat.lt_of_lt_of_le hi (Nat.le_trans ok.high (by decide))
      · refine ⟨sm_put s1 hp, ?_⟩
        have hm : c ∈ z.cps.toList := by
          rw [← Array.mem_def]
          exact Array.mem_of_getElem? hc
        rw [upd_same, decide_eq_true (ok.sign c hm), List.replicate_succ']
    · rintro H1 ⟨s1, e⟩
      refine ⟨p, List.replicate z.cps.size true, rfl, SqL.of (by rw [List.map_replicate]; exact e), ?_⟩
      have : (List.replicate z.cps.size true).all id = true := by simp
      rw [this]
      exact q H1 s1
def spIsKind : Sp := fun vs H Q _ => ∃ z : Str, vs = [.str z] ∧ z ∈ KN ∧ Q (.bl true) H
theorem inV_str {z : Str} : ∀ {l : List Str}, inV (.str z) (l.map V.str) = decide (z ∈ l)
  | [] => rfl
  | y :: l => by
    have ih := inV_str (z := z) (l := l)
    unfold inV at ih ⊢
    rw [List.map_cons, List.any_cons, ih]
    by_cases e : y = z
    · subst e
      simp [eqV]
    · have e2 : (y == z) = false := beq_eq_false_iff_ne.mpr e
      have e3 : ¬ z = y := fun h => e h.symm
      simp [eqV, e2, e3]
theorem flat_strs' (ys : List Str) : (ys.map V.str).all flatV = true := by
  rw [List.all_map]
  exact List.all_eq_true.mpr fun _ _ => rfl
theorem cal_isKind (B : Bi mg) (G : Co K mg) (D : DefAt K mg "is_kind" sIsKind pIsKind) : Cal P w K mg base 1 "is_kind" spIsKind := by
  refine D.cal (k := 0) scIsKind (fun vs H Q E h => ?_) (fun cdv f A outer s H vs Q E hr h => ?_)
  · obtain ⟨i, rfl, _⟩ := h
    rfl
  · obtain ⟨z, rfl, ok, q⟩ := h
    obtain ⟨a, hk, hK⟩ := G.kinds
    refine ⟨_, pss_one (ps_ret (pe_and (pe_callB call_isi (by rfl) B.isinstance (by decide +kernel) (pa_cons (pv 0) (pa_cons (pe_bltn (v := .ty "str") (by rfl) B.str (by decide +kernel) rfl) pa_nil)))
      (pe_one (pe_cmpR op_in_seq (pv 0) (pe_glob (v := .ref a) rfl hk rfl) rfl)))), ?_⟩
    refine ⟨_, rfl, _, _, _, _, true, rfl, .ty _, (.base (.str z)), kit_ty (by decide +kernel), true, rfl, iteT ?_⟩
    refine ⟨_, rfl, a, _, rfl, .inr (hK H), rfl, flat_strs' _, ?_⟩
    rw [inV_str, decide_eq_true ok]
    exact q
def spIsRow : Sp := fun vs H Q _ => ∃ (a : Addr) (ns : List Int), vs = [.int (ns.length : Nat), .ref a] ∧ H a = some (.tup (ns.map V.int)) ∧ ns.length ≤ 1000 ∧ ∀ H', Same H H' → Q (.bl true) H'
theorem cal_isRow (B : Bi mg) (D : DefAt K mg "is_row" sIsRow pIsRow) (c1 : Cal P w K mg base 1 "is_integer" spIsInt) : Cal P w K mg base 2 "is_row" spIsRow := by
  refine D.cal (k := 1) scIsRow (fun vs H Q E h => ?_) (fun cdv f A outer s H vs Q E hr h => ?_)
  · obtain ⟨a, ns, rfl, _⟩ := h
    rfl
  · obtain ⟨a, ns, rfl, ha, hl, q⟩ := h
    refine ⟨_, pss_one (ps_ret (pe_and (pe_callB call_isi (by rfl) B.isinstance (by decide +kernel) (pa_cons (pv 1) (pa_cons (pe_bltn (v := .ty "tuple") (by rfl) B.tuple (by decide +kernel) rfl) pa_nil)))
      (pe_and (pe_cmpR op_eq (pe_callB call_len_seq (by rfl) B.len PySem.boot_len (pa_cons (pv 1) pa_nil)) (pv 0) (nomark _))
      (pe_one (pe_callB (cr_all rfl) (by rfl) B.all (by decide +kernel)
        (pa_cons (pe_lc (own := [("one", 2)]) (g := gName 2) (tt := tYes) rfl scIsRow.nd (pi_tup (pv 1)) (blkOk_by (N := nIsRow) (sc := defScope sIsRow) (by decide +kernel))
          (fun _ _ _ _ _ => pg_name (i := 2) scIsRow.nd rfl (Or.inl rfl)) (fun _ _ _ _ _ => pts_nil)
          (fun _ _ _ _ _ => pe_cl c1 hr (Nat.le_refl _) (by rfl) (pa_cons (pv 2) pa_nil))) pa_nil)))))), ?_⟩
    refine ⟨_, rfl, _, _, _, _, true, rfl, .ty _, (.base (.tup ha)), kit_ty (by decide +kernel), true, rfl, iteT ?_⟩
    have hS : SqT K H a (ns.map V.int) := SqT.of ha
    refine ⟨_, rfl, a, _, rfl, .inr hS, _, rfl, rfl, _, rfl, ?_⟩
    have e1 : decide (V.int ((ns.map V.int).length : Nat) = V.int (ns.length : Nat)) = true := decide_eq_true (by rw [List.length_map])
    rw [e1]
    refine iteT ?_
    refine ⟨_, rfl, a, rfl, ⟨_, hS⟩, fun p hp => ?_⟩
    refine lc_it (walk_tup (xs := ns.map V.int)) (fun i H' => Same H H' ∧ H' p = some (.lst (List.replicate i (.bl true)))) ⟨sm_new (.refl H) hp, upd_same⟩ (fun _ _ _ h => SqT.same h.1 hS) ?_ ?_
    · rintro i x H1 H2 hi ⟨s1, e⟩ ⟨rfl, hx⟩
      obtain ⟨z, hz, rfl⟩ : ∃ z, ns[i]? = some z ∧ V.int z = x := by simpa using hx
      rw [List.length_map] at hi
      refine ⟨rfl, _, rfl, z, rfl, _, e, ?_, sm_put s1 hp, ?_⟩
      · rw [List.length_replicate]
        exact small1000 (by omega)
      · rw [upd_same, List.replicate_succ']
    · rintro H1 ⟨s1, e⟩
      refine ⟨p, List.replicate (ns.map V.int).length true, rfl, SqL.of (by rw [List.map_replicate]; exact e), ?_⟩
      have : (List.replicate (ns.map V.int).length true).all id = true := by simp
      rw [this]
      exact q H1 s1
/-- the only use: an empty list or tuple, so the judge is never called -/
def spIsListOf (K : PySem.W.Frag) : Sp := fun vs H Q _ => ∃ (j a : Addr), vs = [.ref j, .ref a] ∧ (H a = some (.lst []) ∨ (∃ o, K.lookup a = some o ∧ o.cls = .type "tuple" ∧ SqT K H a [])) ∧ ∀ H', Same H H' → Q (.bl true) H'
theorem cal_isListOf (B : Bi mg) (D : DefAt K mg "is_list_of" sIsListOf pIsListOf) : Cal P w K mg base 1 "is_list_of" (spIsListOf K) := by
  refine D.cal (k := 0) scIsListOf (fun vs H Q E h => ?_) (fun cdv f A outer s H vs Q E hr h => ?_)
  · obtain ⟨j, a, rfl, _⟩ := h
    rfl
  · obtain ⟨j, a, rfl, ha, q⟩ := h
    have hk : PySem.W.kitAny K (.type "list") [.type "list", .type "tuple"] = some true := kitAny_cons (b := true) (kit_ty (by decide +kernel)) (fun z => by cases z) (fun _ => rfl)
    have hk2 : PySem.W.kitAny K (.type "tuple") [.type "list", .type "tuple"] = some true :=
      kitAny_cons (b := false) (kit_ty (by decide +kernel)) (fun _ => kitAny_cons (b := true) (kit_ty (by decide +kernel)) (fun z => by cases z) (fun _ => rfl)) (fun z => by cases z)
    rcases ha with ha | ⟨o, lo, co, ha⟩
    · refine ⟨_, pss_one (ps_ret (pe_and (pe_callB call_isiT (by rfl) B.isinstance (by decide +kernel) (pa_cons (pv 1) (pa_cons (pe_tup (pa_cons (pe_bltn (v := .ty "list") (by rfl) B.list (by decide +kernel) rfl)
          (pa_cons (pe_bltn (v := .ty "tuple") (by rfl) B.tuple (by decide +kernel) rfl) pa_nil))) pa_nil)))
        (pe_one (pe_callB (cr_all rfl) (by rfl) B.all (by decide +kernel)
          (pa_cons (pe_lc (own := [("one", 2)]) (g := gName 2) (tt := tYes) rfl scIsListOf.nd (pi_list (pv 1)) (blkOk_by (N := nIsListOf) (sc := defScope sIsListOf) (by decide +kernel))
            (fun _ _ _ _ _ => pg_name (i := 2) scIsListOf.nd rfl (Or.inl rfl)) (fun _ _ _ _ _ => pts_nil)
            (fun _ _ _ _ _ => pe_callA (i := 0) (k := 0) (S := fun _ => none) (fun _ _ z => by cases z) hr rfl (Or.inr (Or.inl rfl)) (pa_cons (pv 2) pa_nil))) pa_nil))))), ?_⟩
      refine ⟨_, rfl, by show 2 ≤ sizeLine; decide, fun p hp => ?_⟩
      have s1 := sm_new (o := .tup [.ty "list", .ty "tuple"]) (.refl H) hp
      refine ⟨.ref a, p, _, .type "list", _, true, rfl, upd_same, .cons (.ty _) (.cons (.ty _) .nil), .base (.lst (s1 _ _ ha)), hk, true, rfl, iteT ?_⟩
      refine ⟨_, rfl, a, rfl, ⟨_, SqL.of (s1 _ _ ha)⟩, fun d hd => ?_⟩
      have s2 := sm_new (o := .lst []) s1 hd
      refine lc_it (walk_list (xs := [])) (fun i H' => i = 0 ∧ Same H H' ∧ H' d = some (.lst [])) ⟨rfl, s2, upd_same⟩ (fun _ _ _ h => SqL.of (h.2.1 _ _ ha)) ?_ ?_
      · rintro i x H1 H2 hi _ _
        exact absurd hi (Nat.not_lt_zero _)
      · rintro H1 ⟨_, s3, e⟩
        exact ⟨d, [], rfl, SqL.of e, q H1 s3⟩
    · refine ⟨_, pss_one (ps_ret (pe_and (pe_callB call_isiT (by rfl) B.isinstance (by decide +kernel) (pa_cons (pv 1) (pa_cons (pe_tup (pa_cons (pe_bltn (v := .ty "list") (by rfl) B.list (by decide +kernel) rfl)
          (pa_cons (pe_bltn (v := .ty "tuple") (by rfl) B.tuple (by decide +kernel) rfl) pa_nil))) pa_nil)))
        (pe_one (pe_callB (cr_all rfl) (by rfl) B.all (by decide +kernel)
          (pa_cons (pe_lc (own := [("one", 2)]) (g := gName 2) (tt := tYes) rfl scIsListOf.nd (pi_tup (pv 1)) (blkOk_by (N := nIsListOf) (sc := defScope sIsListOf) (by decide +kernel))
            (fun _ _ _ _ _ => pg_name (i := 2) scIsListOf.nd rfl (Or.inl rfl)) (fun _ _ _ _ _ => pts_nil)
            (fun _ _ _ _ _ => pe_callA (i := 0) (k := 0) (S := fun _ => none) (fun _ _ z => by cases z) hr rfl (Or.inr (Or.inl rfl)) (pa_cons (pv 2) pa_nil))) pa_nil))))), ?_⟩
      refine ⟨_, rfl, by show 2 ≤ sizeLine; decide, fun p hp => ?_⟩
      have s1 := sm_new (o := .tup [.ty "list", .ty "tuple"]) (.refl H) hp
      refine ⟨.ref a, p, _, .type "tuple", _, true, rfl, upd_same, .cons (.ty _) (.cons (.ty _) .nil), .kTuple lo co, hk2, true, rfl, iteT ?_⟩
      refine ⟨_, rfl, a, rfl, ⟨_, SqT.same s1 ha⟩, fun d hd => ?_⟩
      have s2 := sm_new (o := .lst []) s1 hd
      refine lc_it (walk_tup (xs := [])) (fun i H' => i = 0 ∧ Same H H' ∧ H' d = some (.lst [])) ⟨rfl, s2, upd_same⟩ (fun _ _ _ h => SqT.same h.2.1 ha) ?_ ?_
      · rintro i x H1 H2 hi _ _
        exact absurd hi (Nat.not_lt_zero _)
      · rintro H1 ⟨_, s3, e⟩
        exact ⟨d, [], rfl, SqL.of e, q H1 s3⟩
end
end K17
set_option Elab.async false
set_option linter.all false
set_option maxRecDepth 100000
set_option maxHeartbeats 4000000
namespace K17
open PySem PySem.Spec PyProof.Rows L2
/-! ### asks in the heap -/
def AskO (H : Hp) (t : Addr) (k : Ask) : Prop := ∃ a, H t = some (.tup [.int k.st, .str k.fn, .ref a, .int k.val]) ∧ H a = some (.tup (k.args.map V.int))
theorem AskO.same {H H' : Hp} {t : Addr} {k : Ask} (s : Same H H') (h : AskO H t k) : AskO H' t k := by
  obtain ⟨a, h1, h2⟩ := h
  exact ⟨a, s _ _ h1, s _ _ h2⟩
structure Hist (H : Hp) (h : Addr) (ts : List Addr) (ks : List Ask) : Prop where
  ls : H h = some (.lst (ts.map V.ref))
  len : ts.length = ks.length
  at_ : ∀ (i : Nat) (t : Addr) (k : Ask), ts[i]? = some t → ks[i]? = some k → AskO H t k
  txt : ∀ k ∈ ks, PyData.strOk k.fn = true
  few : ks.length ≤ 40
theorem Hist.same {H H' : Hp} {h : Addr} {ts : List Addr} {ks : List Ask} (s : Same H H') (x : Hist H h ts ks) : Hist H' h ts ks :=
  ⟨s _ _ x.ls, x.len, fun i t k a b => (x.at_ i t k a b).same s, x.txt, x.few⟩
theorem Hist.get {H : Hp} {h : Addr} {ts : List Addr} {ks : List Ask} (x : Hist H h ts ks) {i : Nat} (hi : i < ts.length) : ∃ t k, ts[i]? = some t ∧ ks[i]? = some k ∧ AskO H t k ∧ PyData.strOk k.fn = true := by
  have hk : i < ks.length := by rw [← x.len]; exact hi
  exact ⟨_, _, List.getElem?_eq_getElem hi, List.getElem?_eq_getElem hk, x.at_ i _ _ (List.getElem?_eq_getElem hi) (List.getElem?_eq_getElem hk), x.txt _ (List.getElem_mem hk)⟩
/-! ### the key of an ask as data -/
def keyD (k : Ask) : PyData := .tuple [.str k.fn, .tuple (k.args.map PyData.int)]
theorem eqv_ints : ∀ xs ys : List Int, PyData.eqvAll (xs.map PyData.int) (ys.map PyData.int) = decide (xs = ys)
  | [], [] => by simp [PyData.eqvAll]
  | [], y :: ys => by simp [PyData.eqvAll]
  | x :: xs, [] => by simp [PyData.eqvAll]
  | x :: xs, y :: ys => by
    rw [List.map_cons, List.map_cons, PyData.eqvAll, eqv_ints xs ys, PyData.eqv]
    by_cases h : x = y
    · subst h
      simp
    · simp [h]
theorem eqv_key (a b : Ask) : PyData.eqv (keyD a) (keyD b) = same a b := by
  unfold keyD same
  rw [PyData.eqv, PyData.eqvAll, PyData.eqvAll, PyData.eqvAll, PyData.eqv, PyData.eqv, eqv_ints]
  by_cases h : a.fn = b.fn
  · by_cases g : a.args = b.args
    · simp [h, g]
    · simp [h, g]
  · simp [h]
theorem lay_ints : ∀ xs : List Int, PyData.canLayAll0 (xs.map PyData.int) = true
  | [] => by simp [PyData.canLayAll0]
  | x :: xs => by simp [PyData.canLayAll0, PyData.canLay0, lay_ints xs]
theorem dep_ints : ∀ xs : List Int, PyData.depthAll (xs.map PyData.int) = 0
  | [] => by simp [PyData.depthAll]
  | x :: xs => by simp [PyData.depthAll, PyData.depth, dep_ints xs]
theorem shaped_key {a : Ask} (h : PyData.strOk a.fn = true) : SeqAt.shaped (keyD a) = true := by
  unfold SeqAt.shaped keyD
  simp [PyData.canLay0, PyData.canLayAll0, lay_ints, h, PyData.depth, PyData.depthAll, dep_ints]
theorem dp_key {K : PySem.W.Frag} {H : Hp} {p a : Addr} {k : Ask} (hp : H p = some (.tup [.str k.fn, .ref a])) (ha : H a = some (.tup (k.args.map V.int))) : Dp K H (.ref p) (keyD k) :=
  .tup (SqT.of hp) (.cons (.str _) (.cons (.tup (SqT.of ha) (dpa_ints _)) .nil))
section
variable {base : Heap} {mg : Str → Option Value} {K : PySem.W.Frag} {w : World} {P : Program}
/-! ### must_agree -/
theorem cut13 : ¬ (HT.sIx 4 0 (some 1) = 0 ∧ HT.sIx 4 4 (some 3) = 4) := by decide
def spAgree : Sp := fun vs H Q _ => ∃ (kd : Str) (t u : Addr) (a b : Ask), vs = [.str kd, .ref t, .ref u] ∧ AskO H t a ∧ AskO H u b ∧ PyData.strOk a.fn = true ∧ PyData.strOk b.fn = true ∧ ∀ H', Same H H' → Q (.bl (agree kd a b)) H'
theorem inV_two {z : Str} : inV (.str z) [.str "fixed", .str "stable"] = (decide (z = "fixed") || decide (z = "stable")) := by
  have h := inV_str (z := z) (l := ["fixed", "stable"])
  have e : (["fixed", "stable"] : List Str).map V.str = [.str "fixed", .str "stable"] := rfl
  rw [e] at h
  rw [h]
  simp
theorem cal_mustAgree (D : DefAt K mg "must_agree" sMustAgree pMustAgree) : Cal P w K mg base 1 "must_agree" spAgree := by
  refine D.cal (k := 0) scMustAgree (fun vs H Q E h => ?_) (fun cdv f A outer s H vs Q E hr h => ?_)
  · obtain ⟨kd, t, u, a, b, rfl, _⟩ := h
    rfl
  · obtain ⟨kd, t, u, a, b, rfl, ⟨ra, ht, hra⟩, ⟨rb, hu, hrb⟩, oa, ob, q⟩ := h
    refine ⟨_, pss_cons (ps_if (PW.pt (pw_or (pt_cmpR (op_neD hr.units) (pe_slice sl_tup (pv 1) (po_some pe_int) (po_some pe_int)) (pe_slice sl_tup (pv 2) (po_some pe_int) (po_some pe_int)) (nomark _))
        (pw_or1 (pt_cmpR op_notIn_seq (pv 0) (pe_tup (pa_cons pe_str (pa_cons pe_str pa_nil))) rfl))))
        (pss_one (ps_ret pe_bl)) pss_nil)
      (pss_one (ps_ret (pe_or (pe_cmpR op_eq (pv 0) pe_str (nomark _)) (pe_one (pe_cmpR op_eq (pe_ix ix_tup (pv 1) pe_int (fun _ _ => rfl)) (pe_ix ix_tup (pv 2) pe_int (fun _ _ => rfl)) (nomark _)))))), ?_⟩
    refine ⟨_, rfl, 1, rfl, 3, rfl, t, _, rfl, SqT.of ht, cut13, fun p hp => ?_⟩
    have s1 := sm_new (o := .tup (cutV [V.int a.st, V.str a.fn, V.ref ra, V.int a.val] (some 1) (some 3))) (.refl H) hp
    refine ⟨_, rfl, 1, rfl, 3, rfl, u, _, rfl, SqT.of (s1 _ _ hu), cut13, fun p2 hp2 => ?_⟩
    have s2 := sm_new (o := .tup (cutV [V.int b.st, V.str b.fn, V.ref rb, V.int b.val] (some 1) (some 3))) s1 hp2
    refine ⟨keyD a, keyD b, dp_key (keep1 upd_same hp2) (s2 _ _ hra), dp_key upd_same (s2 _ _ hrb), shaped_key oa, shaped_key ob, _, rfl, ?_⟩
    rw [eqv_key]
    cases hs : same a b with
    | false =>
      have e : agree kd a b = false := by unfold agree; rw [hs, Bool.and_false]
      rw [e] at q
      refine iteT (iteT ?_)
      exact q _ s2
    | true =>
      refine iteF ?_
      have e : agree kd a b = near kd a b := by unfold agree; rw [hs, Bool.and_true]
      rw [e] at q
      refine ⟨_, rfl, by show 2 ≤ sizeLine; decide, fun p3 hp3 => ?_⟩
      have s3 := sm_new (o := .tup [.str "fixed", .str "stable"]) s2 hp3
      refine ⟨p3, _, rfl, .inr (SqT.of upd_same), rfl, rfl, _, rfl, ?_⟩
      rw [if_pos rfl, inV_two]
      by_cases h1 : kd = "fixed"
      · subst h1
        refine iteF ⟨_, rfl, rfl, _, rfl, ?_⟩
        rw [decide_eq_true rfl]
        refine iteT ?_
        have e2 : near "fixed" a b = true := by unfold near; simp
        rw [e2] at q
        exact q _ s3
      · rw [decide_eq_false h1]
        have h1' : ¬ V.str kd = V.str "fixed" := fun z => h1 (V.str.inj z)
        by_cases h2 : kd = "stable"
        · subst h2
          refine iteF ⟨_, rfl, rfl, _, rfl, ?_⟩
          rw [decide_eq_false h1']
          refine iteF ⟨_, rfl, t, _, 0, .int a.st, rfl, rfl, SqT.of (s3 _ _ ht), rfl, _, rfl, u, _, 0, .int b.st, rfl, rfl, SqT.of (s3 _ _ hu), rfl, rfl, ?_⟩
          have e2 : near "stable" a b = decide (V.int a.st = V.int b.st) := by
            unfold near
            rw [decide_eq_false ne_sf]
            simp
          rw [e2] at q
          exact q _ s3
        · rw [decide_eq_false h2]
          have e2 : near kd a b = false := near_not h1 h2 a b
          rw [e2] at q
          exact iteT (q _ s3)
/-! ### refuting -/
def spRefuting : Sp := fun vs H Q _ => ∃ (h : Addr) (f kd : Str) (ts : List Addr) (ks : List Ask), vs = [.ref h, .str f, .str kd] ∧ Hist H h ts ks ∧
  ∀ H', Same H H' → (refute ks f kd = none → Q .non H') ∧ (∀ i j p, refute ks f kd = some (i, j) → H p = none → H' p = some (.tup [.int (i : Nat), .int (j : Nat)]) → Q (.ref p) H')
theorem cut_take (xs : List V) (j : Nat) (h : j ≤ xs.length) : cutV xs none (some (j : Int)) = xs.take j := by
  unfold cutV
  rw [HT.sIx_none, HT.sIx_nat, List.drop_zero, Nat.sub_zero, Nat.min_eq_left h]
theorem cal_refuting (B : Bi mg) (D : DefAt K mg "refuting" sRefuting pRefuting) (c : Cal P w K mg base 1 "must_agree" spAgree) : Cal P w K mg base 2 "refuting" spRefuting := by
  refine D.cal (k := 1) scRefuting (fun vs H Q E h => ?_) (fun cdv ff A outer s H vs Q E hr h => ?_)
  · obtain ⟨h, f, kd, ts, ks, rfl, _⟩ := h
    rfl
  · obtain ⟨h, f, kd, ts, ks, rfl, X, q⟩ := h
    refine ⟨_, pss_cons (ps_for PassesOwn.never rfl (pi_enum (by rfl) B.enumerate (pa_cons (pv 0) pa_nil))
        (pg_tup rfl (pgs_cons (pg_name (i := 3) scRefuting.nd rfl (.inl rfl)) (pgs_cons (pg_name (i := 4) scRefuting.nd rfl (.inl rfl)) pgs_nil)))
        (pss_one (ps_for PassesOwn.never rfl (pi_enum (by rfl) B.enumerate (pa_cons (pe_slice sl_list (pv 0) po_none (po_some (pv 3))) pa_nil))
          (pg_tup rfl (pgs_cons (pg_name (i := 5) scRefuting.nd rfl (.inl rfl)) (pgs_cons (pg_name (i := 6) scRefuting.nd rfl (.inl rfl)) pgs_nil)))
          (pss_one (ps_if (PW.pt (pw_and (pt_cmpR op_eq (pe_ix ix_tup (pv 4) pe_int (fun _ _ => rfl)) (pv 1) (nomark _))
              (pw_and (pt_val (pe_cl c hr (Nat.le_refl _) (by rfl) (pa_cons (pv 2) (pa_cons (pv 6) (pa_cons (pv 4) pa_nil)))))
              (pw_and1 (pt_cmpR op_ne (pe_ix ix_tup (pv 6) pe_int (fun _ _ => rfl)) (pe_ix ix_tup (pv 4) pe_int (fun _ _ => rfl)) (nomark _))))))
            (pss_one (ps_ret (pe_tup (pa_cons (pv 5) (pa_cons (pv 3) pa_nil))))) pss_nil)))))
      (pss_one (ps_ret pe_non)), ?_⟩
    refine ⟨_, rfl, h, ts.map V.ref, rfl, SqL.of X.ls, ?_⟩
    refine for_it (walk_enum (xs := ts.map V.ref)) (fun j σ H' => ∃ x3 x4 x5 x6, σ = [some (.ref h), some (.str f), some (.str kd), x3, x4, x5, x6] ∧ Same H H' ∧ ∀ k, k < j → firstJ ks f kd k = none)
      ⟨none, none, none, none, rfl, .refl H, fun k hk => absurd hk (Nat.not_lt_zero _)⟩ (fun _ _ _ _ ⟨_, _, _, _, _, s1, _⟩ => s1.seq (SqL.of X.ls)) ?_ ?_
    · rintro j x σ H1 H2 hj ⟨x3, x4, x5, x6, rfl, s1, hb⟩ ⟨T, y1, y2, rfl, nT, rfl, e1, e2⟩
      cases e1
      rw [List.length_map] at hj
      obtain ⟨t, b, gt, gk, hA, ob⟩ := (X.same s1).get hj
      have e2 : (ts.map V.ref)[j]? = some y2 := e2
      rw [List.getElem?_map, gt] at e2
      cases e2
      have s2 := sm_new (o := .tup [.int (j : Nat), .ref t]) s1 nT
      refine ⟨T, _, rfl, SqT.of upd_same, rfl, .int (j : Nat), [.ref t], rfl, .ref t, [], rfl, rfl, ?_⟩
      refine ⟨_, rfl, .int (j : Nat), rfl, j, rfl, h, ts.map V.ref, rfl, SqL.of (s2 _ _ X.ls), fun c nc => ?_⟩
      rw [cut_take _ _ (by rw [List.length_map]; omega)]
      have s3 := sm_new (o := .lst ((ts.map V.ref).take j)) s2 nc
      refine ⟨c, _, rfl, SqL.of upd_same, ?_⟩
      refine for_it (walk_enum (xs := (ts.map V.ref).take j)) (fun i σ H' => ∃ x5 x6, σ = [some (.ref h), some (.str f), some (.str kd), some (.int (j : Nat)), some (.ref t), x5, x6] ∧ Same H H' ∧
          H' c = some (.lst ((ts.map V.ref).take j)) ∧ ∀ k a, k < i → ks[k]? = some a → badAt f kd a b = false)
        ⟨x5, x6, rfl, s3, upd_same, fun k a hk _ => absurd hk (Nat.not_lt_zero _)⟩ (fun _ _ _ _ ⟨_, _, _, _, hc, _⟩ => SqL.of hc) ?_ ?_
      · rintro i x σ H3 H4 hi ⟨x5, x6, rfl, s4, hc, hb2⟩ ⟨U, y1, y2, rfl, nU, rfl, e1, e2⟩
        cases e1
        rw [List.length_take, List.length_map] at hi
        have hij : i < j := by omega
        obtain ⟨u, a, gu, ga, hA2, oa⟩ := (X.same s4).get (i := i) (by omega)
        have e2 : ((ts.map V.ref).take j)[i]? = some y2 := e2
        rw [List.getElem?_take_of_lt hij, List.getElem?_map, gu] at e2
        cases e2
        have s5 := sm_new (o := .tup [.int (i : Nat), .ref u]) s4 nU
        refine ⟨U, _, rfl, SqT.of upd_same, rfl, .int (i : Nat), [.ref u], rfl, .ref u, [], rfl, rfl, ?_⟩
        obtain ⟨rb, ht, hrb⟩ := (X.same s5).at_ j t b gt gk
        refine ⟨_, rfl, t, _, 1, .str b.fn, rfl, rfl, SqT.of ht, rfl, .str f, rfl, rfl, _, rfl, ?_⟩
        by_cases hf : b.fn = f
        · rw [decide_eq_true (congrArg V.str hf)]
          refine iteT ?_
          refine ⟨_, rfl, .ref u, rfl, .ref t, rfl, kd, u, t, a, b, rfl, (X.same s5).at_ i u a gu ga, ⟨rb, ht, hrb⟩, oa, ob, fun H5 s56 => ?_⟩
          have s6 := s5.trans s56
          refine ⟨_, rfl, ?_⟩
          obtain ⟨ra, hu, _⟩ := (X.same s6).at_ i u a gu ga
          obtain ⟨rb', ht', _⟩ := (X.same s6).at_ j t b gt gk
          have hc5 : H5 c = some (.lst ((ts.map V.ref).take j)) := s56 _ _ (keep1 hc nU)
          cases hag : agree kd a b with
          | false =>
            refine iteF (iteF ⟨some (.int (i : Nat)), some (.ref u), rfl, s6, hc5, fun k a' hk ha' => ?_⟩)
            rcases Nat.lt_succ_iff_lt_or_eq.mp hk with z | z
            · exact hb2 k a' z ha'
            · subst z
              rw [ga] at ha'
              cases ha'
              unfold badAt
              rw [hag]
              simp
          | true =>
            refine iteT ?_
            refine ⟨_, rfl, u, _, 3, .int a.val, rfl, rfl, SqT.of hu, rfl, _, rfl, t, _, 3, .int b.val, rfl, rfl, SqT.of ht', rfl, rfl, _, rfl, ?_⟩
            by_cases hv : a.val = b.val
            · rw [decide_eq_true (congrArg V.int hv)]
              refine iteF ⟨some (.int (i : Nat)), some (.ref u), rfl, s6, hc5, fun k a' hk ha' => ?_⟩
              rcases Nat.lt_succ_iff_lt_or_eq.mp hk with z | z
              · exact hb2 k a' z ha'
              · subst z
                rw [ga] at ha'
                cases ha'
                unfold badAt
                simp [hv]
            · have hv' : ¬ V.int a.val = V.int b.val := fun z => hv (V.int.inj z)
              rw [decide_eq_false hv']
              refine iteT ⟨_, rfl, .int (j : Nat), rfl, by show 2 ≤ sizeLine; decide, fun p np => ?_⟩
              have s7 := sm_new (o := .tup [.int (i : Nat), .int (j : Nat)]) s6 np
              have hbad : badAt f kd a b = true := badAt_true.mpr ⟨hf, hag, hv⟩
              have hj' : j < ks.length := by rw [← X.len]; exact hj
              exact (q _ s7).2 i j p (refute_hit hj' (firstJ_some gk ga hij hbad hb2) hb) (s6.free np) upd_same
        · have hf' : ¬ V.str b.fn = V.str f := fun z => hf (V.str.inj z)
          rw [decide_eq_false hf']
          refine iteF (iteF ⟨some (.int (i : Nat)), some (.ref u), rfl, s5, keep1 hc nU, fun k a' hk ha' => ?_⟩)
          rcases Nat.lt_succ_iff_lt_or_eq.mp hk with z | z
          · exact hb2 k a' z ha'
          · subst z
            unfold badAt
            rw [decide_eq_false hf]
            rfl
      · rintro σ H3 ⟨x5, x6, rfl, s4, hc, hb2⟩
        rw [List.length_take, List.length_map] at hb2
        refine ⟨some (.int (j : Nat)), some (.ref t), x5, x6, rfl, s4, fun k hk => ?_⟩
        rcases Nat.lt_succ_iff_lt_or_eq.mp hk with z | z
        · exact hb k z
        · subst z
          exact firstJ_none gk fun i a hi ha => hb2 i a (by omega) ha
    · rintro σ H1 ⟨x3, x4, x5, x6, rfl, s1, hb⟩
      rw [List.length_map] at hb
      exact (q H1 s1).1 (refute_miss fun k hk => hb k (by rw [X.len]; exact hk))
/-! ### fits -/
def spFits : Sp := fun vs H Q _ => ∃ (h : Addr) (f kd : Str) (ts : List Addr) (ks : List Ask), vs = [.ref h, .str f, .str kd] ∧ Hist H h ts ks ∧ ∀ H', Same H H' → Q (.bl (fitsB ks f kd)) H'
theorem cal_fits (D : DefAt K mg "fits" sFits pFits) (c : Cal P w K mg base 2 "refuting" spRefuting) : Cal P w K mg base 3 "fits" spFits := by
  refine D.cal (k := 2) scFits (fun vs H Q E h => ?_) (fun cdv ff A outer s H vs Q E hr h => ?_)
  · obtain ⟨h, f, kd, ts, ks, rfl, _⟩ := h
    rfl
  · obtain ⟨h, f, kd, ts, ks, rfl, X, q⟩ := h
    refine ⟨_, pss_one (ps_ret (pe_cmpR op_isN (pe_cl c hr (Nat.le_refl _) (by rfl) (pa_cons (pv 0) (pa_cons (pv 1) (pa_cons (pv 2) pa_nil)))) pe_non (nomark _))), ?_⟩
    refine ⟨_, rfl, _, rfl, _, rfl, h, f, kd, ts, ks, rfl, X, fun H1 s1 => ⟨fun e => ?_, fun i j p e _ hp => ?_⟩⟩
    · have q1 := q H1 s1
      unfold fitsB at q1
      rw [e] at q1
      exact ⟨rfl, q1⟩
    · have q1 := q H1 s1
      unfold fitsB at q1
      rw [e] at q1
      exact ⟨rfl, q1⟩
end
end K17
set_option Elab.async false
set_option linter.all false
set_option maxRecDepth 100000
set_option maxHeartbeats 4000000
/-! sets of texts: set(a list of texts), sorted(such a set) -/
namespace K17
open PySem PySem.Spec PyProof.Rows L2
/-- an entry of the table -/
def entT (w : World) (x : Str × Tok) : Int × Value := (hashStr w x.1, .str x.1 x.2)
/-- the set at a holds the texts of l, in some order, and can be walked -/
def TxSet (w : World) (h : Heap) (a : Addr) (l : List (Str × Tok)) : Prop :=
  ∃ (o : Obj) (es : Array (Int × Value)) (ep : Nat) (t : SetTable), h.get? a = some o ∧ o.ExactSet ∧ o.data = .set es ep t ∧ es.toList.Perm (l.map (entT w)) ∧
    l.length < scanBound ∧ t.fits es.size = true ∧ Ris t.place.toList ∧ (w.params.followText "set-order" = true ∨ t.led = true)
section
variable {s : Shared} {A : Around} {E : Value → Shared → Prop} {w : World} {P : Program} {a : Addr}
theorem TxSet.mov {h h' : Heap} {l : List (Str × Tok)} (R : TxSet w h a l) (k : ∀ o, h.get? a = some o → h'.get? a = some o) : TxSet w h' a l := by
  obtain ⟨o, es, ep, t, ho, more⟩ := R
  exact ⟨o, es, ep, t, k o ho, more⟩
theorem tx_size {l : List (Str × Tok)} {es : Array (Int × Value)} (p : es.toList.Perm (l.map (entT w))) : es.size = l.length := by
  have := p.length_eq
  rw [Array.length_toList, List.length_map] at this
  exact this
theorem tx_elems {l : List (Str × Tok)} {xs : List (Int × Value)} (p : xs.Perm (l.map (entT w))) : ElemsOf (strKind P w) xs := fun e he => by
  obtain ⟨x, _, rfl⟩ := List.mem_map.mp (p.mem_iff.mp he)
  exact ⟨⟨x.1, strKind_is P w x.1 x.2, rfl⟩, rfl⟩
theorem tx_is {x : Str × Tok} {k : Str} : (strKind P w).is k (entT w x).2 = true ↔ x.1 = k := by
  constructor
  · intro h
    obtain ⟨t, e⟩ := Value.isStrOf_shape (x := k) (v := (entT w x).2) h
    unfold entT at e
    injection e with e1 _
  · rintro rfl
    exact strKind_is P w x.1 x.2
theorem tx_mem {l : List (Str × Tok)} {xs : List (Int × Value)} (p : xs.Perm (l.map (entT w))) {k : Str} : (∃ e ∈ xs, (strKind P w).is k e.2 = true) ↔ k ∈ l.map (·.1) := by
  constructor
  · rintro ⟨e, he, q⟩
    obtain ⟨x, hx, rfl⟩ := List.mem_map.mp (p.mem_iff.mp he)
    exact List.mem_map.mpr ⟨x, hx, tx_is.mp q⟩
  · intro h
    obtain ⟨x, hx, rfl⟩ := List.mem_map.mp h
    exact ⟨entT w x, p.mem_iff.mpr (List.mem_map.mpr ⟨x, hx, rfl⟩), tx_is.mpr rfl⟩
/-- the entries es1 with the table t2 are laid, and all of it anew where the table is too full -/
theorem tx_lay {g : Bool → Sem Unit} (hg : ∀ (b : Bool) (s1 : Shared) (Rs : Unit → Shared → Prop), Rs () s1 → wpAny (model P w) A (g b) Rs E s1)
    {o : Obj} {es ea : Array (Int × Value)} {ep : Nat} {t tq : SetTable} {l : List (Str × Tok)} {dm : Bool} {Rs : Option Bool → Shared → Prop}
    (ho : s.heap.get? a = some o) (hx : o.ExactSet) (hd : o.data = .set es ep t) (p1 : ea.toList.Perm (l.map (entT w))) (hb : l.length < scanBound)
    (f2 : tq.fits ea.size = true) (r2 : Ris tq.place.toList) (l2 : w.params.followText "set-order" = true ∨ tq.led = true)
    (hR : ∀ h', Heap.SameBut a s.heap h' → TxSet w h' a l → Rs (some true) { s with heap := h' }) :
    wpAny (model P w) A (do
      storeSet a ea tq
      if (!dm && tq.tooFull) = true then do
        g (relayAll tq ea (SetTable.grown ea.size)).2.2
        storeSet a (relayAll tq ea (SetTable.grown ea.size)).1 (relayAll tq ea (SetTable.grown ea.size)).2.1
        pure (some true)
      else pure (some true)) Rs E s := by
  have z1 : ea.size < scanBound := by rw [tx_size p1]; exact hb
  have o1 := store_at (es' := ea) (t' := tq) ho hd
  have b1 := Heap.SameBut.update s.heap a (Obj.putSet ea tq)
  refine wpAny_bind (wpAny_storeSet_of ho hd ?_ (fits_of_scanBound z1))
  by_cases c : (!dm && tq.tooFull) = true
  · rw [if_pos c]
    have q1 := (relayAll_perm tq ea (SetTable.grown ea.size)).trans p1
    have q2 := relayAll_fits tq ea (SetTable.grown ea.size)
    have q3 := relayAll_ris tq ea (SetTable.grown ea.size)
    have q4 := relayAll_led tq ea (SetTable.grown ea.size)
    revert q1 q2 q3 q4
    generalize relayAll tq ea (SetTable.grown ea.size) = W
    obtain ⟨es2, t3, gv⟩ := W
    intro q1 q2 q3 q4
    have z2 : es2.size < scanBound := by rw [tx_size q1]; exact hb
    refine wpAny_bind (hg gv _ _ ?_)
    refine wpAny_bind (wpAny_storeSet_of o1 rfl ?_ (fits_of_scanBound z2))
    refine wpAny_pure (hR _ (b1.trans (Heap.SameBut.update _ a _)) ?_)
    exact ⟨_, es2, _, t3, store_at (es' := es2) (t' := t3) o1 rfl, hx, rfl, q1, hb, q2, q3, l2.imp id fun z => q4.trans z⟩
  · rw [if_neg c]
    exact wpAny_pure (hR _ b1 ⟨_, ea, _, tq, o1, hx, rfl, p1, hb, f2, r2, l2⟩)
/-- one text more -/
theorem tx_add {l : List (Str × Tok)} {k : Str} {tk : Tok} {Q : Bool → Shared → Prop} (R : TxSet w s.heap a l) (room : l.length + 1 < scanBound)
    (h0 : k ∈ l.map (·.1) → Q false s)
    (h1 : k ∉ l.map (·.1) → ∀ h', Heap.SameBut a s.heap h' → TxSet w h' a ((k, tk) :: l) → Q true { s with heap := h' }) :
    wpAny (model P w) A (setAddHashed a (.str k tk) ((strKind P w).hash k)) Q E s := by
  obtain ⟨o, es, ep, t, ho, hx, hd, p, hb, fi, hr, hl⟩ := R
  have hk : (strKind P w).is k (.str k tk) = true := strKind_is P w k tk
  have hel : ElemsOf (strKind P w) es.toList := tx_elems p
  have hz : es.size < scanBound := by rw [tx_size p]; exact hb
  have hv : (Value.str k tk).scannable = true := rfl
  unfold setAddHashed; unfold setAddHashedIn
  refine wpAny_holding (wpAny_bind (wpAny_setState_of ho hd fi ?_))
  dsimp only
  rw [if_pos (byScan_of hv hz hel)]
  unfold setAddByScan
  refine wpAny_bind (wpAny_bind (wpAny_rule (wpAny_bind (wpAny_setScan_of hk ho hd fi hel ?_))))
  cases hj : es.toList.findIdx? (fun e => (strKind P w).is k e.2) with
  | some j =>
    obtain ⟨lt, pj, _⟩ := List.findIdx?_eq_some_iff_getElem.mp hj
    exact wpAny_pure (wpAny_pure (h0 ((tx_mem (P := P) p).mp ⟨_, List.getElem_mem lt, pj⟩)))
  | none =>
    have hn : k ∉ l.map (·.1) := fun z => by
      obtain ⟨e, he, q⟩ := (tx_mem (P := P) p).mpr z
      have c := List.findIdx?_eq_none_iff.mp hj e he
      rw [q] at c
      cases c
    have q1 : (layNew t es ((strKind P w).hash k) (.str k tk)).1.toList.Perm (((k, tk) :: l).map (entT w)) := by
      refine (layNew_perm t es ((strKind P w).hash k) (.str k tk)).trans ?_
      rw [Array.toList_push]
      exact (List.perm_append_singleton _ _).trans (p.cons _)
    have q2 := layNew_fits t es ((strKind P w).hash k) (.str k tk)
    have q3 := layNew_ris t es ((strKind P w).hash k) (.str k tk) hr
    have q4 := layNew_led t es ((strKind P w).hash k) (.str k tk)
    dsimp only
    revert q1 q2 q3 q4
    generalize layNew t es ((strKind P w).hash k) (.str k tk) = W
    obtain ⟨es1, t1, dm, gv⟩ := W
    intro q1 q2 q3 q4
    dsimp only at q1 q2 q3 q4 ⊢
    have q5 : w.params.followText "set-order" = true ∨ t1.led = true := hl.imp id fun z => q4.trans z
    have fin : ∀ h', Heap.SameBut a s.heap h' → TxSet w h' a ((k, tk) :: l) → Q true { s with heap := h' } := h1 hn
    have gw : ∀ (b : Bool) (s1 : Shared) (R : Unit → Shared → Prop), R () s1 →
        wpAny (model P w) A (match b with | true => rule "set.scan.the-table-gave-way" | false => pure ()) R E s1 := fun b s1 R q => by
      cases b
      · exact wpAny_pure q
      · exact wpAny_rule q
    refine wpAny_bind (gw gv _ _ ?_)
    split
    · refine wpAny_bind ?_
      rw [hashByValue_scannable 8 hv]
      refine wpAny_pure ?_
      refine tx_lay ?_ ho hx hd q1 room ?_ ?_ ?_ fun h' sb r => ?_
      · intro b s1 R q
        cases b
        · first | exact wpAny_pure q | exact wpAny_rule q
        · first | exact wpAny_rule q | exact wpAny_pure q
      · first | (split <;> first | exact q2 | exact SetTable.fits_plain_off q2) | exact q2
      · first | (split <;> exact q3) | exact q3
      · first | (split <;> exact q5) | exact q5
      · exact wpAny_pure (fin h' sb r)
    · refine wpAny_bind ?_; refine wpAny_pure ?_
      simp only [↓reduceIte]
      refine tx_lay ?_ ho hx hd q1 room q2 q3 q5 fun h' sb r => ?_
      · intro b s1 R q
        cases b
        · first | exact wpAny_pure q | exact wpAny_rule q
        · first | exact wpAny_rule q | exact wpAny_pure q
      · exact wpAny_pure (fin h' sb r)
end
section
variable {s : Shared} {A : Around} {E : Value → Shared → Prop} {w : World} {P : Program}
/-- what is known of the set when the texts xs have been added -/
def Got (w : World) (h : Heap) (a : Addr) (xs : List Str) (l : List (Str × Tok)) : Prop := TxSet w h a l ∧ (l.map (·.1)).Nodup ∧ l.length ≤ xs.length ∧ ∀ k, k ∈ l.map (·.1) ↔ k ∈ xs
theorem tx_loop {itr : Addr} {fp wr : List Addr} {G : Array GenState → Array GenState → Prop} {n : Nat} {Pv : Nat → Value → Prop} {St : Nat → Shared → Prop} {R : Result → Shared → Prop}
    (W : WalksS P w A.in1 itr fp wr G n Pv St) (a : Addr) (out : a ∉ fp) (xs : List Str) (hn : n = xs.length) (room : xs.length + 1 < scanBound)
    (val : ∀ i v, Pv i v → ∃ k t, xs[i]? = some k ∧ v = .str k t) :
    ∀ (m i : Nat) (s : Shared), n - i = m → i ≤ n → St i s → (∃ l, Got w s.heap a (xs.take i) l) →
      (∀ sv l, Moved (a :: wr) G s sv → Got w sv.heap a xs l → R (.ok (.ret .none)) sv) →
      codeAny (model P w) A (.builtin "set.update.loop" ⟨[.ref a, .ref itr], []⟩) R s := by
  have aw : a ∉ wr := fun h => out (W.sub a h)
  have more : ∀ b ∈ wr, b ∈ a :: wr := fun b hb => List.mem_cons_of_mem a hb
  intro m
  induction m with
  | zero =>
    intro i s hm hi st ⟨l, g, nd, hl, hk⟩ fin
    have e : i = n := by omega
    subst e
    have et : xs.take i = xs := List.take_of_length_le (by omega)
    rw [et] at hl hk
    apply codeAny_builtin PyProof.Rows.F.entry_set_update_loop
    rewrite [Around.under_plainId PyProof.Rows.F.plain_set_update_loop _]
    show wpAny _ A.in1 (pyNext (.ref itr) >>= _) _ _ s
    refine wpAny_bind (W.done s _ _ st fun sv mv => ?_)
    show wpAny _ A.in1 (ret Value.none) _ _ sv
    exact wpAny_pure (fin sv l (mv.mono more) ⟨g.mov fun o q => mv.heap a o aw q, nd, hl, hk⟩)
  | succ m ih =>
    intro i s hm hi st ⟨l, g, nd, hl, hk⟩ fin
    have lt : i < n := by omega
    apply codeAny_builtin PyProof.Rows.F.entry_set_update_loop
    rewrite [Around.under_plainId PyProof.Rows.F.plain_set_update_loop _]
    show wpAny _ A.in1 (pyNext (.ref itr) >>= _) _ _ s
    refine wpAny_bind (W.item i s _ _ lt st fun v sv pv st' mv => ?_)
    obtain ⟨k, t, hx, rfl⟩ := val i v pv
    have g' : TxSet w sv.heap a l := g.mov fun o q => mv.heap a o aw q
    have hl' : l.length ≤ i := Nat.le_trans hl (by rw [List.length_take]; omega)
    have et : xs.take (i + 1) = xs.take i ++ [k] := by
      rw [List.take_add_one, hx]
      rfl
    have len1 : (xs.take (i + 1)).length = i + 1 := by rw [List.length_take]; omega
    show wpAny _ A.in1 (holding [Value.str k t] (setAdd a (.str k t)) >>= _) _ _ sv
    refine wpAny_bind (wpAny_holding ?_); unfold setAdd
    refine wpAny_holding (wpAny_bind ((strKind P w).pyHash (k := k) (strKind_is P w k t) ?_))
    have again : ∀ (h' : Heap) (l' : List (Str × Tok)), Heap.SameBut a sv.heap h' → Got w h' a (xs.take (i + 1)) l' →
        codeAny (model P w) A (.builtin "set.update.loop" ⟨[.ref a, .ref itr], []⟩) R { sv with heap := h', toks := sv.toks + 1 } := fun h' l' sb gt => by
      refine ih (i + 1) _ (by omega) lt (W.frame _ sv _ _ st' (Nat.le_succ _) fun b hb o q => ?_) ⟨l', gt⟩ fun sw l'' mv' gt' => ?_
      · exact (sb.2 b fun z => out (z ▸ hb)).trans q
      · refine fin sw l'' (Moved.trans W.gtrans ((mv.mono more).then_heap (Nat.le_succ _) fun b o hb q => ?_) mv') gt'
        exact (sb.2 b fun z => hb (z ▸ List.mem_cons_self)).trans q
    refine tx_add (s := { sv with toks := sv.toks + 1 }) g' (by omega) (fun hin => ?_) (fun hin h' sb new => ?_)
    · refine wpAny_pure ⟨plainId_quiet PyProof.Rows.F.plain_set_update_loop _, again sv.heap l (Heap.SameBut.refl a _) ⟨g', nd, by omega, fun z => ?_⟩⟩
      rw [et, List.mem_append, ← hk z, List.mem_singleton]
      exact ⟨.inl, fun q => q.elim id fun e => by rw [e]; exact hin⟩
    · refine wpAny_pure ⟨plainId_quiet PyProof.Rows.F.plain_set_update_loop _, again h' _ sb ⟨new, List.nodup_cons.mpr ⟨hin, nd⟩, ?_, fun z => ?_⟩⟩
      · rw [List.length_cons]
        omega
      · rw [et, List.mem_append, ← hk z, List.mem_singleton, List.map_cons, List.mem_cons]
        exact Or.comm
theorem strs_get : ∀ {vs : List Value} {xs : List Str}, StrsAre vs xs → ∀ (i : Nat) (v : Value), vs[i]? = some v → ∃ k t, xs[i]? = some k ∧ v = .str k t
  | _, _, .nil, _, _, h => by simp at h
  | _, _, .cons x t _, 0, v, h => by
    simp at h
    exact ⟨x, t, rfl, h.symm⟩
  | _, _, .cons _ _ r, i + 1, v, h => by
    rw [List.getElem?_cons_succ] at h ⊢
    exact strs_get r i v h
/-- set(xs), a list of texts -/
theorem call_set_texts {src : Addr} {items : Array Value} (xs : List Str) {Q : Value → Shared → Prop} (hh : A.handled = none) (hl : s.heap.IsList src items) (hi : StrsAre items.toList xs) (room : xs.length + 1 < scanBound)
    (hQ : ∀ (h' : Heap) (tk : Nat) (g : List (Str × Tok)), Got w h' s.heap.objs.size xs g → (∀ b o, s.heap.get? b = some o → h'.get? b = some o) → Q (.ref s.heap.objs.size) { s with heap := h', toks := tk }) :
    wpAny (model P w) A (call (.type "set") [.ref src]) Q E s := by
  obtain ⟨cm, tm, am⟩ := PySem.F.called_set.mro
  have made0 := PySem.F.called_set.made
  have sub0 := PySem.F.called_set.sub
  have not0 := PySem.F.called_set.notType
  have can0 := PySem.F.called_set.canCreate
  have call0 := PySem.F.typeCall_set_1 (.ref src)
  have esz : items.size = xs.length := by
    have le := StrsAre.len_eq hi
    rw [Array.length_toList] at le
    exact le
  refine wpAny_call ?_; refine codeAny_of_tree ?_
  show wpAny (model P w) _ (callAny (.type "set") _) _ _ _
  refine wpAny_pure ⟨Code.quiet_builtin _ (by decide +kernel), ?_⟩
  refine codeAny_builtin PySem.F.entry_type_call ?_
  rw [Around.under_plain (weight_type_call_type "set" [.ref src] []) rfl]
  repeat (any_goals first | assumption | wp_step)
  let O : Obj := { cls := .type "set", dict := none, data := .set #[] 0 (.fresh 0 0 (!w.params.followText "set-order")) }
  refine codeAny_mono (code_set_led1 (.ref src) (E := E) (Q₁ := fun v s1 => v = .ref s.heap.objs.size ∧ s1 = { s with heap := s.heap.push O }) ⟨rfl, rfl⟩) fun r s1 hr => ?_
  cases r with
  | error e => exact hr
  | ok fl =>
    cases fl with
    | next => exact hr.elim
    | brk => exact hr.elim
    | cont => exact hr.elim
    | ret v =>
      obtain ⟨rfl, rfl⟩ := hr
      have hS : (s.heap.push O).get? s.heap.objs.size = some O := Heap.get?_push_size _ rfl
      have hT : Shared.TypeIs { s with heap := s.heap.push O } (.ref s.heap.objs.size) "set" := ⟨_, hS, rfl⟩
      have lk0 := PySem.F.called_set.init.lookup
      have bd0 := PySem.F.called_set.init.bind (.ref s.heap.objs.size)
      repeat (any_goals first | assumption | wp_step)
      refine codeAny_mono (codeAny_call_builtin (R := wants (fun r s2 => r = .none ∧ ∃ h' tk g, s2 = { s with heap := h', toks := tk } ∧ Got w h' s.heap.objs.size xs g ∧
        (∀ b o, s.heap.get? b = some o → h'.get? b = some o)) E) PySem.F.called_set.init.plain PySem.F.entry_set_init (check_set_init_1 hT ?_)) fun r2 s2 hr2 => ?_
      · obtain ⟨o0, ho0, hcl, nl, hdl⟩ := hl
        obtain ⟨oc, od, odt, osl⟩ := o0
        simp only at hcl hdl
        subst hcl
        subst hdl
        have ho1 := Heap.get?_push_of_some O ho0
        have sl0 := PySem.F.sub_list_set
        have sf0 := PySem.F.sub_list_frozenset
        have ne0 : (Value.type "list" == Value.type "dict") = false := by decide
        have hl1 : (s.heap.push O).IsList src items := ⟨_, ho1, rfl, nl, rfl⟩
        unfold Builtin.«set.__init__»
        unfold noKeywords Builtin.Frozenset.updateFrom
        generalize hPI : pyIter = PI
        wp_walk
        subst hPI
        refine wpAny_pyIter_list hl1 (wpAny_bind (wpAny_runValue ?_))
        have ll : src < s.heap.objs.size := Heap.lt_size ho0
        have lI : src ≠ (s.heap.push O).objs.size := by
          rw [Heap.size_push]
          exact Nat.ne_of_lt (Nat.lt_succ_of_lt ll)
        have sf : s.heap.objs.size ∉ [(s.heap.push O).objs.size, src] := by
          rw [Heap.size_push]
          simp only [List.mem_cons, List.not_mem_nil, or_false, not_or]
          exact ⟨Nat.ne_of_lt (Nat.lt_succ_self _), Nat.ne_of_gt ll⟩
        have val : ∀ (i : Nat) (v : Value), items[i]? = some v → ∃ k t, xs[i]? = some k ∧ v = .str k t := fun i v hv => by
          have lt : i < xs.length := by
            rw [← esz]
            exact (Array.getElem?_eq_some_iff.mp hv).1
          exact strs_get hi i v (by rw [Array.getElem?_toList]; exact hv)
        have h3 : A.in1.in1.in1.handled = none := by simp [hh]
        refine tx_loop ((Walks.list h3 _ src lI items).toS) s.heap.objs.size sf xs esz room val (items.size - 0) 0 _ (by omega) (Nat.zero_le _)
          ⟨⟨_, Heap.get?_push_size _ rfl, rfl, rfl⟩, hl1.push _⟩ ?start ?fin
        case start =>
          refine ⟨[], ⟨O, #[], 0, _, Heap.get?_push_of_some _ hS, ⟨rfl, rfl, rfl⟩, rfl, .refl _, by show 0 < scanBound; decide, by rfl, List.Pairwise.nil, ?_⟩, List.nodup_nil, Nat.zero_le _, fun k => ?_⟩
          · show _ ∨ (!w.params.followText "set-order") = true
            cases fo : w.params.followText "set-order"
            · exact .inr rfl
            · exact .inl rfl
          · rw [List.take_zero]
            exact Iff.rfl
        case fin =>
          intro s' g mv gt
          obtain ⟨h', gs, dr, tk, os⟩ := s'
          have eg : gs = s.gens := mv.gens
          have ed : dr = s.drawn := mv.drawn
          have eo : os = s.os := mv.os
          subst eg
          subst ed
          subst eo
          show wpAny _ _ _ _ _ _
          refine wpAny_pure ?_
          show wpAny (model P w) _ (ret Value.none) _ _ _
          refine wpAny_pure ⟨rfl, h', tk, g, rfl, gt, fun b o e => ?_⟩
          have b0 : b < s.heap.objs.size := Heap.lt_size e
          refine mv.heap b o ?_ (Heap.get?_push_of_some _ (Heap.get?_push_of_some _ e))
          rw [Heap.size_push]
          simp only [List.mem_cons, List.not_mem_nil, or_false, not_or]
          exact ⟨Nat.ne_of_lt b0, Nat.ne_of_lt (Nat.lt_succ_of_lt b0)⟩
      · cases r2 with
        | error e => exact hr2
        | ok f2 =>
          cases f2 with
          | next => exact hr2.elim
          | brk => exact hr2.elim
          | cont => exact hr2.elim
          | ret r =>
            obtain ⟨rfl, h', tk, g, rfl, gt, kp⟩ := hr2
            repeat (any_goals first | assumption | wp_step)
            exact hQ _ _ g gt kp
end
/-! ### the two rules -/
/-- a set of the texts ls -/
def SetT (w : World) (a : Addr) (ls : List Str) : HO := .ext fun h => ∃ l, TxSet w h a l ∧ l.map (·.1) = ls
section
variable {X : Cx}
theorem setT_ok {P : Program} {w : World} {H : Hp} {h : Heap} {a : Addr} {l : List (Str × Tok)} (R : TxSet w h a l) : ObjOk P w H h a (SetT w a (l.map (·.1))) := by
  obtain ⟨o, es, ep, t, ho, more⟩ := id R
  exact ⟨⟨l, R, rfl⟩, ⟨o, ho⟩, fun h1 h2 ⟨l', R', e⟩ k => ⟨l', R'.mov k, e⟩⟩
def rSetT (K : PySem.W.Frag) (w : World) : List V → Hp → VK → Prop := fun vs H Q => ∃ (l : Addr) (xs : List Str), vs = [V.ref l] ∧ SqL K H l (xs.map V.str) ∧ xs.length ≤ 1000 ∧
  ∀ (p : Addr) (ls : List Str), H p = none → ls.Nodup → ls.length ≤ xs.length → (∀ z, z ∈ ls ↔ z ∈ xs) → Q (.ref p) (upd H p (SetT w p ls))
theorem cr_setT (hc : X.calm = true) : CallR X (.type "set") (rSetT X.K X.w) := by
  intro pins s σ H vs us Q I rel h
  obtain ⟨l, xs, rfl, hs, few, q⟩ := h
  obtain ⟨its, rv, pl, _⟩ := I.list hs
  rw [Vals.ref1 rel]
  refine call_set_texts xs (I.ok.hd hc) pl.isList rv.strs (by show _ < 4096; omega) fun h' tk g gt kp => ?_
  obtain ⟨g1, g2, g3, g4⟩ := gt
  have fr := I.hok.fresh (Nat.le_refl s.heap.objs.size)
  exact ⟨.ref _, upd H s.heap.objs.size (SetT X.w s.heap.objs.size (g.map (·.1))), I.laid (t' := tk) kp (Nat.le_refl _) (setT_ok g1), rfl,
    q _ _ fr g2 (by rw [List.length_map]; exact g3) g4⟩
def rSortedT (w : World) : List V → Hp → VK → Prop := fun vs H Q => ∃ (a : Addr) (ls : List Str), vs = [V.ref a] ∧ H a = some (SetT w a ls) ∧ ls.length < 64 ∧
  ∀ (ys : List Str) (p : Addr), ys.Perm ls → H p = none → Q (.ref p) (upd H p (.lst (ys.map V.str)))
theorem strs_ent {w : World} : ∀ {l : List (Str × Tok)} {vs : List Value}, vs = (l.map (entT w)).map (·.2) → StrsAre vs (l.map (·.1))
  | [], _, e => by
    subst e
    exact .nil
  | x :: l, _, e => by
    subst e
    exact .cons _ _ (strs_ent rfl)
theorem strs_perm {vs ws : List Value} (p : vs.Perm ws) : ∀ {xs : List Str}, StrsAre ws xs → ∃ ys, StrsAre vs ys ∧ ys.Perm xs := by
  induction p with
  | nil =>
    intro xs h
    exact ⟨xs, h, .refl _⟩
  | cons v _ ih =>
    intro xs h
    cases h with
    | cons x t h =>
      obtain ⟨ys, a, b⟩ := ih h
      exact ⟨x :: ys, .cons _ _ a, b.cons x⟩
  | swap u v l =>
    intro xs h
    cases h with
    | cons x t h =>
      cases h with
      | cons y t' h => exact ⟨_, .cons _ _ (.cons _ _ h), .swap _ _ _⟩
  | trans _ _ ih1 ih2 =>
    intro xs h
    obtain ⟨ys, a, b⟩ := ih2 h
    obtain ⟨zs, c, d⟩ := ih1 a
    exact ⟨zs, c, d.trans b⟩
theorem cr_sortedT (hc : X.calm = true) : CallR X (.builtin "sorted") (rSortedT X.w) := by
  intro pins s σ H vs us Q I rel h
  obtain ⟨a, ls, rfl, ha, few, q⟩ := h
  rw [Vals.ref1 rel]
  obtain ⟨⟨l, ⟨o, es, ep, t, ho, hx, hd, pm, hb, hf, hr, hl⟩, rfl⟩, _⟩ := I.hok a _ ha
  have hz : es.size < scanBound := by rw [tx_size pm]; exact hb
  refine Calls.call_function_entry PyProof.Rows.kind_sorted PyProof.Rows.plain_sorted PyProof.Rows.entry_sorted
    (PyProof.Rows.args_sorted1 _) ?_
  unfold Builtin.«sorted»; refine wpAny_bind (m := checkCount "sorted" 1 1 _) (wpAny_pure ?_)
  refine wpAny_bind (collect_set (A := X.A.in1) (I.ok.hd hc) ⟨o, ho, hx.1, hd⟩ hf hz hr hl fun s1 ws kp hsz hg hos pw => ?_)
  obtain ⟨zs, hS, pz⟩ := strs_perm (pw.trans (pm.map (·.2))) (strs_ent rfl)
  have hwl : ws.length < 64 := by
    have e1 := StrsAre.len_eq hS
    rw [e1, pz.length_eq]
    exact few
  obtain ⟨h1, gs, dr, tk, os⟩ := s1
  have eg : gs = s.gens := hg
  have eo : os = s.os := hos
  subst eg
  subst eo
  refine wpAny_bind (wpAny_newList ?_ (small64 hwl))
  have hol2 : (h1.push (seqObj "list" ws.toArray 0)).get? h1.objs.size = some (seqObj "list" ws.toArray 0) := Heap.get?_push_size _ rfl
  show wpAny _ _ _ _ _ (Shared.mk (h1.push (seqObj "list" ws.toArray 0)) s.gens dr tk s.os)
  refine wpAny_bind (wpAny_holding (wpAny_call_entry PyProof.Rows.slot_list_sort ⟨_, hol2, rfl⟩ PyProof.Rows.entry_list_sort
    (list_sort_treeK strKind_oneLt hol2 hS.keysOf (fun v₁ v₂ rest e => keyKind_strs (by rw [← e]; exact hS)) hwl fun st' hp hs => ⟨_, rfl, ?_⟩) (PyProof.Rows.args_list_sort _)))
  obtain ⟨ys, g1, g2, _⟩ := sorted_out_str hS hp hs
  obtain ⟨e', he'⟩ := PyProof.Rows.sortedHeap_at (vs := ws) (out := (arrOf st').map (·.2)) hol2
  have hy : (ys.map V.str).length ≤ sizeLine := by
    rw [List.length_map, g2.length_eq, pz.length_eq]
    exact small64 few
  have fr : H h1.objs.size = none := I.hok.fresh hsz
  have old : ∀ b u, s.heap.get? b = some u → (sortedHeap (h1.push (seqObj "list" ws.toArray 0)) h1.objs.size ws ((arrOf st').map (·.2))).get? b = some u := fun b u e => by
    have e1 := kp b u e
    have lt := Heap.lt_size e1
    rw [PyProof.Rows.sortedHeap_old (Nat.ne_of_lt lt) (by rw [size_push']; exact Nat.lt_succ_of_lt lt)]
    exact Heap.get?_push_of_some _ e1
  have new : ObjOk X.prog X.w (upd H h1.objs.size (.lst (ys.map V.str))) (sortedHeap (h1.push (seqObj "list" ws.toArray 0)) h1.objs.size ws ((arrOf st').map (·.2))) h1.objs.size (.lst (ys.map V.str)) :=
    ⟨hy, ((arrOf st').map (·.2)).toList, e', vals_of_strs g1, by rw [Array.toArray_toList]; exact he'⟩
  have J := I.call (ch := []) (g' := s.gens) (d' := dr) (t' := tk) (Un.laid old hsz fr) (I.hok.laid old hsz new) I.bare (fun _ z => nomatch z)
  exact wpAny_pure ⟨_, rfl, .ref h1.objs.size, _, J, rfl, q ys _ (g2.trans pz) fr⟩
end
end K17
set_option Elab.async false
set_option linter.all false
set_option maxRecDepth 100000
set_option maxHeartbeats 4000000
/-! own rules: a set or dict comprehension that is stored in a local name; walks for them -/
namespace K17
open PySem PySem.Spec PyProof.Rows L2 PpSet
section
variable {X : Cx} {i : Nat} {y : Str} {py pos spos : Pos} {elt kx vx tg iter : Expr} {ifs : List Expr} {scope : Scope} {own : List (Str × Nat)} {wi : TI} {g : TG} {tt : TT} {te tk tv : TE}
/-- the end of a comprehension whose value goes to a local name -/
theorem use_end {pins : List (Addr × Obj)} {σ : L2.St} {H : Hp} {s : Shared} {D : Ends} {L C : Addr} {m : Str → Option Value} (hN : X.N.Nodup) (hy : X.N[i]? = some y) (hl : X.env.scope.names.lookup y = some .local)
    (I : Inv X pins σ H s) (q : D.nx (σ.set i (some (.ref L))) H) (hn : s.heap.Ns C m) (fo : FpOk X pins H C) :
    compPost (model X.prog X.w) X.A X.xe (some (assign (.Name y py) X.env)) (fun _ s' => SP X pins D .next s') (.ref L) C (.ok .next) s := by
  obtain ⟨f0, f1, f2, f3, f4, f5⟩ := fo
  show wpAny _ X.A (assign (.Name y py) X.env (.ref L)) _ _ _
  refine wpAny_assign_Name (store_ok2 (v := V.ref L) I hN hy (.inl hl) rfl (fun s2 I2 ⟨a, sb, ha⟩ => ?_) (.inr hl))
  have ne : C ≠ a := ha.elim (fun z => z ▸ f1) fun z e => f4 y a z e.symm
  refine ⟨m, hn.sameBut sb ne, fun h3 sb3 => ⟨_, H, I2.turned (t' := s2.toks) (fun b o hb e => ?_) f0 f1 f3 f4 f5, q⟩⟩
  exact (sb3.2 b hb).trans e
theorem ps_setDc (hc : X.calm = true) (hN : X.N.Nodup) (hy : X.N[i]? = some y) (hl : X.env.scope.names.lookup y = some .local)
    (sw : swapsWith (.DictComp kx vx [⟨tg, iter, ifs, 0⟩] scope pos) (some (.Name y py)) spos.line X.env = pure true) (hi : PI X tg iter wi) (ok : BlkOk X.N X.env.scope scope own)
    (hg : ∀ s H C cl fp, PG (X.blk s H scope (compEnvC scope cl C X.env) fp) tg g) (ht : ∀ s H C cl fp, PTs (X.blk s H scope (compEnvC scope cl C X.env) fp) ifs tt)
    (hk : ∀ s H C cl fp, PE (X.blk s H scope (compEnvC scope cl C X.env) fp) kx tk) (he : ∀ s H C cl fp, PE (X.blk s H scope (compEnvC scope cl C X.env) fp) vx tv)
    (hs : ∀ x, foldedSetIterable iter X.env x = pure x := by intro _; rfl) :
    PS X (.Assign [.Name y py] (.DictComp kx vx [⟨tg, iter, ifs, 0⟩] scope pos) spos) (tAsg (tDc wi g tt tk tv (own.map (·.2))) (gName i)) := by
  refine ⟨fun pins s σ H D I hD => ?_⟩
  rw [exec_Assign_Name_used _ _ _ _ sw]
  refine wpAny_bind ?_; refine wpAny_standAt (wpAny_bind ?_)
  have h : tDc wi g tt tk tv (own.map (·.2)) σ H (fun x H1 => gName i x σ H1 D.nx) := hD
  show wpAny _ X.A (do
    let _ ← comprehension (.DictComp kx vx [⟨tg, iter, ifs, 0⟩] scope pos) scope X.env (firstIterPos [⟨tg, iter, ifs, 0⟩] pos) newDict false (eval iter X.env) (some (assign (.Name y py) X.env))) _ _ s
  exact wpAny_bind (thn (dc_core (Qf := fun _ s' => SP X pins D .next s') hc hN I hi ok hg ht hk he hs h fun L C s' m H' I' q hn f => use_end hN hy hl I' q hn f) fun _ s' hq => wpAny_pure (wpAny_pure hq))
theorem ps_setSc (hc : X.calm = true) (hN : X.N.Nodup) (hy : X.N[i]? = some y) (hl : X.env.scope.names.lookup y = some .local)
    (sw : swapsWith (.SetComp elt [⟨tg, iter, ifs, 0⟩] scope pos) (some (.Name y py)) spos.line X.env = pure true) (hi : PI X tg iter wi) (ok : BlkOk X.N X.env.scope scope own)
    (hg : ∀ s H C cl fp, PG (X.blk s H scope (compEnvC scope cl C X.env) fp) tg g) (ht : ∀ s H C cl fp, PTs (X.blk s H scope (compEnvC scope cl C X.env) fp) ifs tt)
    (he : ∀ s H C cl fp, PE (X.blk s H scope (compEnvC scope cl C X.env) fp) elt te) (hs : ∀ x, foldedSetIterable iter X.env x = pure x := by intro _; rfl) :
    PS X (.Assign [.Name y py] (.SetComp elt [⟨tg, iter, ifs, 0⟩] scope pos) spos) (tAsg (tSc X.w wi g tt te (own.map (·.2))) (gName i)) := by
  refine ⟨fun pins s σ H D I hD => ?_⟩
  rw [exec_Assign_Name_used _ _ _ _ sw]
  refine wpAny_bind ?_; refine wpAny_standAt (wpAny_bind ?_)
  have h : tSc X.w wi g tt te (own.map (·.2)) σ H (fun x H1 => gName i x σ H1 D.nx) := hD
  show wpAny _ X.A (do
    let _ ← comprehension (.SetComp elt [⟨tg, iter, ifs, 0⟩] scope pos) scope X.env (firstIterPos [⟨tg, iter, ifs, 0⟩] pos) (newSet (.type "set")) false (eval iter X.env) (some (assign (.Name y py) X.env))) _ _ s
  exact wpAny_bind (thn (sc_core (Qf := fun _ s' => SP X pins D .next s') hc hN I hi ok hg ht he hs h fun L C s' m H' I' q hn f => use_end hN hy hl I' q hn f) fun _ s' hq => wpAny_pure (wpAny_pure hq))
theorem sw_dc {gs : List Comprehension} {l : Nat} {env : Env} (hk : env.scope.kind = .function) (hy : env.scope.names.lookup y = some .local) (hl : (py.line == pos.line) = true)
    (ha : (scope.names.any fun (n, k) => n == y && (k == .local || k == .cell)) = false) : swapsWith (.DictComp kx vx gs scope pos) (some (.Name y py)) l env = pure true := by
  have k1 : env.kindOf y = some .local := hy
  have k2 : env.blockKind = .function := by
    unfold Env.blockKind
    rw [hk]
    rfl
  unfold swapsWith
  simp only [k2, k1, ha, Expr.pos, hl]
  rfl
theorem sw_sc {gs : List Comprehension} {l : Nat} {env : Env} (hk : env.scope.kind = .function) (hy : env.scope.names.lookup y = some .local) (hl : (py.line == pos.line) = true)
    (ha : (scope.names.any fun (n, k) => n == y && (k == .local || k == .cell)) = false) : swapsWith (.SetComp elt gs scope pos) (some (.Name y py)) l env = pure true := by
  have k1 : env.kindOf y = some .local := hy
  have k2 : env.blockKind = .function := by
    unfold Env.blockKind
    rw [hk]
    rfl
  unfold swapsWith
  simp only [k2, k1, ha, Expr.pos, hl]
  rfl
end
section
variable {n : Nat} {J : It} {Y : Nat → Hp → V → Hp → Prop} {G : Hp → Prop}
/-- a dict comprehension over a walk -/
theorem dc_it (w : Walk J n G Y) {g : TG} {tt : TT} {tk tv : TE} {vs : List Nat} {σ : L2.St} {H1 : Hp} {D : Addr} {Qd : Hp → Prop} (Pv : Nat → Hp → Prop) (h0 : Pv 0 (upd H1 D (.dK []))) (hG : ∀ i H, i ≤ n → Pv i H → G H)
    (hs : ∀ i x H H', i < n → Pv i H → Y i H x H' → g x (wipe σ vs) H' fun τ H2 => wipe τ vs = wipe σ vs ∧ tt τ H2 fun b H3 =>
      if b = true then tk τ H3 fun y H4 => tv τ H4 fun z H5 => ∃ kvs k, y = kV k ∧ H5 D = some (.dK kvs) ∧ kvs.length < sizeLine ∧ Pv (i + 1) (upd H5 D (.dK (putK kvs k z))) else Pv (i + 1) H3)
    (hd : ∀ H, Pv n H → Qd H) :
    ∃ Wk : Nat → Nat → Hp → Prop, (∃ m, Wk 0 m (upd H1 D (.dK []))) ∧ ∀ i m H, Wk i m H →
      (J.stop i H ∧ Qd H) ∨ (J.go i H ∧ ∃ Nxt : Hp → Prop, (∀ H', Nxt H' → ∃ m', m' < m ∧ Wk (i + 1) m' H') ∧ ∀ x H', J.yld i H x H' → g x (wipe σ vs) H' fun τ H2 => wipe τ vs = wipe σ vs ∧ tt τ H2 fun b H3 =>
        if b = true then tk τ H3 fun y H4 => tv τ H4 fun z H5 => ∃ kvs k, y = kV k ∧ H5 D = some (.dK kvs) ∧ kvs.length < sizeLine ∧ Nxt (upd H5 D (.dK (putK kvs k z))) else Nxt H3) := by
  refine ⟨fun i m H => m + i = n ∧ Pv i H, ⟨n, rfl, h0⟩, fun i m H ⟨e, p⟩ => ?_⟩
  have gh := hG i H (by omega) p
  by_cases c : i = n
  · subst c
    exact .inl ⟨w.stops H gh, hd H p⟩
  · have lt : i < n := by omega
    exact .inr ⟨w.goes i H lt gh, Pv (i + 1), fun H' p' => ⟨m - 1, by omega, by omega, p'⟩, fun x H' yl => hs i x H H' lt p (w.yields i H x H' lt gh yl)⟩
/-- a set comprehension over a walk without turns -/
theorem sc_none {w : World} (wk : Walk J 0 G Y) {g : TG} {tt : TT} {te : TE} {vs : List Nat} {σ : L2.St} {H1 : Hp} {D : Addr} {Qd : Hp → Prop} (g0 : G (upd H1 D (SetBO w D (fun _ => false) 0))) (q : Qd (upd H1 D (SetBO w D (fun _ => false) 0))) :
    ∃ Wk : Nat → Nat → Hp → Prop, (∃ m, Wk 0 m (upd H1 D (SetBO w D (fun _ => false) 0))) ∧ ∀ i m H, Wk i m H →
      (J.stop i H ∧ Qd H) ∨ (J.go i H ∧ ∃ Nxt : Hp → Prop, (∀ H', Nxt H' → ∃ m', m' < m ∧ Wk (i + 1) m' H') ∧ ∀ x H', J.yld i H x H' → g x (wipe σ vs) H' fun τ H2 => wipe τ vs = wipe σ vs ∧ tt τ H2 fun b H3 =>
        if b = true then te τ H3 fun y H4 => ∃ (c : Bool) (S : Bool → Bool) (n : Nat), y = .bl c ∧ H4 D = some (SetBO w D S n) ∧ n + 1 < scanBound ∧ Nxt (upd H4 D (SetBO w D (fun j => S j || decide (j = c)) (if S c = true then n else n + 1))) else Nxt H3) := by
  refine ⟨fun i _ H => i = 0 ∧ H = upd H1 D (SetBO w D (fun _ => false) 0), ⟨0, rfl, rfl⟩, fun i m H ⟨e1, e2⟩ => ?_⟩
  subst e1
  subst e2
  exact .inl ⟨wk.stops _ g0, q⟩
end
end K17
set_option Elab.async false
set_option linter.all false
set_option maxRecDepth 100000
set_option maxHeartbeats 4000000
/-! own rules: repr, o[i] read ahead of a store, a def that is called where nothing is being shown -/
namespace K17
open PySem PySem.Spec PyProof.Rows L2
section
variable {X : Cx}
/-- repr of a bool, a list -/
def rRepr (K : PySem.W.Frag) : List V → Hp → VK → Prop := fun vs H Q => ∃ (x : V) (d : PyData), vs = [x] ∧ Dp K H x d ∧ ((∃ b, d = .bool b) ∨ ∃ ds, d = .list ds) ∧ d.showable = true ∧ d.hasDict = false ∧ d.depth ≤ 20 ∧
  d.shown.length ≤ sizeLine ∧ Q (.str d.shown) H
theorem cr_repr {k : Nat} (hr : Room k X.A) (hg : X.A.guards = some []) : CallR X (.builtin "repr") (rRepr X.K) := by
  intro pins s σ H vs us Q I rel h
  obtain ⟨x, d, rfl, hd, kd, sw, nd, dp, sz, q⟩ := h
  obtain ⟨u, rfl, ru⟩ := vals1 rel
  rcases kd with ⟨b, rfl⟩ | ⟨ds, rfl⟩
  · cases hd
    cases ru
    refine PySem.P.repr_of_bool ⟨.str (PyData.shown (.bool b)), H, I.tok _, ⟨s.toks, ?_⟩, q⟩
    rw [PyData.shown]
  · obtain ⟨as, rd⟩ := Dp.reads I _ _ _ hd ru
    cases hd
    cases ru
    have un := hr.units
    exact repr_of_reads' rd sw (PyData.noDict_hsm nd) hg (by omega) (fun _ _ e => e) (fun h' w tk hk => ⟨.str (PyData.shown (.list ds)), H, I.kept hk, ⟨w, rfl⟩, q⟩) sz
/-- xs[i] by values, i from 0 on -/
def rGetL (K : PySem.W.Frag) : V → V → Hp → VK → Prop := fun x y H Q => ∃ (p : Addr) (xs : List V) (i : Nat) (v : V), x = .ref p ∧ y = .int (i : Nat) ∧ SqL K H p xs ∧ xs[i]? = some v ∧ Q v H
theorem get_list : PGet X (rGetL X.K) := by
  intro pins s σ H o i ov iv Q I ro ri h
  obtain ⟨p, xs, j, v, rfl, rfl, hp, hv, q⟩ := h
  cases ro
  obtain ⟨t, rfl⟩ := ri
  obtain ⟨its, r, pl, hz⟩ := I.list hp
  obtain ⟨u, hu, ru⟩ := r.get hv
  have hl := r.length
  have hj : j < xs.length := (List.getElem?_eq_some_iff.mp hv).1
  have hn := line63
  exact wpAny_getItem_list pl.isList (by omega) (by omega) (by simpa using hu) ⟨v, H, I, ru, q⟩
end
/-! ### a def called where no container is being shown -/
def RunG (P : Program) (w : World) (K : PySem.W.Frag) (mg : Str → Option Value) (base : Heap) (k : Nat) (f : Addr) (fd : FuncData) (ps : List Str) (sp : Sp) : Prop :=
  ∀ (A : Around) (outer : List Env) (s : Shared) (H : Hp) (args : Args) (us : List Value) (vs : List V) (Q : VK) (E : XK), Room k A → A.guards = some [] → Env0 P w K mg base A outer s H →
    BindsTo s fd args (ps.zip us) → Vals vs us → sp vs H Q E → codeAny (model P w) A (.call (.ref f) args) (CR CX0 outer P w H s Q E) s
section
variable {base : Heap} {mg : Str → Option Value} {K : PySem.W.Frag} {w : World} {P : Program}
theorem runG_of {x qual : Str} {st : Stmt} {f : Addr} {fd : FuncData} {N ps : List Str} {k : Nat} {sp : Sp} (F : Fun K x qual st f fd) (S : FnScope N ps (defScope st))
    (long : ∀ vs H Q E, sp vs H Q E → vs.length = ps.length)
    (body : ∀ (cdv : Value) (A : Around) (outer : List Env) (s : Shared) (H : Hp) (vs : List V) (Q : VK) (E : XK),
      Room k (A.deeper (envOfC qual (defScope st) s.heap.objs.size f cdv)) → A.guards = some [] → sp vs H Q E →
      ∃ t, PSs (cxOf CX0 P w K mg base N qual (defScope st) f cdv A outer s H E).nox (defBody st) t ∧
        t { nx := fun _ H' => Q .non H', rt := Q } (start N vs) H) : RunG P w K mg base (k + 1) f fd ps sp := by
  obtain ⟨c0, d0, kV, dc, pm, an, cdv, ct, sl, rfl, lk, hcd⟩ := F.ex
  intro A outer s H args us vs Q E hr hg e0 hb r hs
  have Kin : K.In s.heap := e0.mod.kin.keeps fun b o e => (e0.bs b o e).1
  have nolim : s.heap.NoLimit := e0.mod.nolimit.keeps fun b o e => (e0.bs b o e).1
  have kinds : ∀ y ∈ ps.zip us, (defScope st).names.lookup y.1 = some .local ∨
      ((defScope st).names.lookup y.1 = some .cell ∧ ((cellsFrom (s.heap.objs.size + 1) (defScope st).names []).lookup y.1).isSome = true) := fun y hy =>
    (S.par y.1 (List.of_mem_zip hy).1).imp id fun q => ⟨q, PySem.W.cellsFrom_some _ _ _ (.inl q)⟩
  refine codeAny_call_function hr.depth (Kin _ _ lk) rfl S.co S.gen rfl (PySem.W.codeRec_of Kin hcd) (hb _ _ _ _ ?_)
  refine wpAny_newFunctionEnv_cells S.kind kinds fun env he s1 ic => ?_
  subst he
  refine ⟨nolim.keeps ic.toInCall.keep, codeAny_func ?_⟩
  obtain ⟨t, ht, hq⟩ := body cdv A outer s H vs Q E (hr.deeper _) hg hs
  have I := inv_start (CX := CX0) (qual := qual) (f := f) (cd := cdv) (E := E) S hr.hd e0 (long vs H Q E hs) r ic
  refine wpAny_mono (ht.nox.run [] s1 (start N vs) H _ I hq) (fun fl s' h' => ?_) fun e s' h' => h'
  cases fl with
  | next =>
    obtain ⟨σ', H', J, q⟩ := h'
    exact ⟨V.non, H', J.os, J.bare, J.base, J.hok, rfl, q⟩
  | ret u =>
    obtain ⟨v, σ', H', J, rv, q⟩ := h'
    exact ⟨v, H', J.os, J.bare, J.base, J.hok, rv, q⟩
  | brk =>
    obtain ⟨_, _, _, q⟩ := h'
    exact q.elim
  | cont =>
    obtain ⟨_, _, _, q⟩ := h'
    exact q.elim
structure CalG (P : Program) (w : World) (K : PySem.W.Frag) (mg : Str → Option Value) (base : Heap) (k : Nat) (x : Str) (sp : Sp) : Prop where
  ex : ∃ (f : Addr) (fd : FuncData) (ps : List Str), RunG P w K mg base k f fd ps sp ∧ (∀ vs H Q E, sp vs H Q E → vs.length = ps.length) ∧ mg x = some (.ref f) ∧ PySem.W.keepIn K (.ref f) = true ∧ Binds K fd ps []
theorem DefAt.calG {x : Str} {st : Stmt} {N ps : List Str} {k : Nat} {sp : Sp} (D : DefAt K mg x st ps) (S : FnScope N ps (defScope st)) (len : ∀ vs H Q E, sp vs H Q E → vs.length = ps.length)
    (body : ∀ (cdv : Value) (f : Addr) (A : Around) (outer : List Env) (s : Shared) (H : Hp) (vs : List V) (Q : VK) (E : XK),
      Room k (A.deeper (envOfC x (defScope st) s.heap.objs.size f cdv)) → A.guards = some [] → sp vs H Q E →
      ∃ t, PSs (cxOf CX0 P w K mg base N x (defScope st) f cdv A outer s H E).nox (defBody st) t ∧
        t { nx := fun _ H' => Q .non H', rt := Q } (start N vs) H) : CalG P w K mg base (k + 1) x sp := by
  obtain ⟨f, fd, F, m, b⟩ := D.ex
  exact ⟨f, fd, ps, runG_of F S len fun cdv A outer s H vs Q E => body cdv f A outer s H vs Q E, len, m, F.kp, b⟩
end
section
variable {X : Cx} {k j : Nat} {x : Str} {sp : Sp} {p pos : Pos} {e : Expr} {es : List Expr} {t : TA}
theorem pe_clG (c : CalG X.prog X.w X.K X.mg X.base k x sp) (hr : Room j X.A) (hk : k ≤ j) (hgd : X.A.guards = some []) (hg : Gl X x) (ha : PA X (e :: es) t)
    (hdb : (x == ("__debug__" : Str)) = false := by decide)
    (he : starEach (e :: es) X.env = (false, eval e X.env) :: starEach es X.env := by rfl)
    (hpl : (backTo pos (starEach es X.env)).any (·.1) = false := by rfl) : PE X (.Call (.Name x p) (e :: es) [] pos) (tCall sp [] L2.E0 t) := by
  obtain ⟨f, fd, ps, F, len, hm, kp, b⟩ := c.ex
  refine ⟨fun pins s σ H Q I h => wpAny_Call_Name_kw (ld_glob I hg hm ?_ hdb)⟩
  refine PySem.W.callWith_K (h₀ := X.base) I.ok.mod.kin kp (thn (ha.run pos pins s σ H _ I h) fun us s1 ⟨vs, H1, I1, r, q⟩ => ⟨I1.kIn, ?_⟩) he hpl
  have q' : sp vs H1 Q L2.E0 := by
    have : sp (vs ++ []) H1 Q L2.E0 := q
    rw [List.append_nil] at this
    exact this
  have hl : (us ++ []).length = ps.length := by
    rw [List.append_nil, ← r.length]
    exact len _ _ _ _ q'
  have hb := b s1 us I1.kIn hl
  rw [List.append_nil] at hb
  refine wpAny_call (codeAny_mono (F X.A X.stack s1 H1 ⟨us, []⟩ us vs Q L2.E0 (hr.mono hk) hgd I1.env0 hb r q') fun fl s' hz => ?_)
  cases fl with
  | error e => exact False.elim hz
  | ok fl =>
    cases fl with
    | ret u => exact I1.after hz
    | next => exact hz.elim
    | brk => exact hz.elim
    | cont => exact hz.elim
end
end K17
set_option Elab.async false
set_option linter.all false
set_option maxRecDepth 100000
set_option maxHeartbeats 4000000
namespace K17
open PySem PySem.Spec PyProof.Rows L2
/-! ### functions and schemas in the heap -/
/-- a function of a schema: its name, the number of its arguments, its kind, and where the pair of both stands -/
structure Fn where
  nm : Str
  many : Nat
  kd : Str
  at_ : Addr
structure FnGood (f : Fn) : Prop where
  nm : NameOk f.nm
  many : f.many ≤ 3
  kd : f.kd ∈ KN
abbrev kvF (f : Fn) : Key × V := (Sum.inr f.nm, V.ref f.at_)
structure Fns (H : Hp) (d : Addr) (fs : List Fn) : Prop where
  dk : H d = some (.dK (fs.map kvF))
  at_ : ∀ f ∈ fs, H f.at_ = some (.tup [.int (f.many : Nat), .str f.kd])
theorem Fns.same {H H' : Hp} {d : Addr} {fs : List Fn} (s : Same H H') (x : Fns H d fs) : Fns H' d fs := ⟨s _ _ x.dk, fun f hf => s _ _ (x.at_ f hf)⟩
theorem val_in {α : Type} {key : α → Str} {val : α → V} : ∀ {fs : List α}, (fs.map key).Nodup → ∀ {f : α}, f ∈ fs → valV (fs.map fun f => ((Sum.inr (key f) : Key), val f)) (Sum.inr (key f)) = some (val f)
  | [], _, _, h => by cases h
  | g :: fs, nd, f, h => by
    rw [List.map_cons, List.nodup_cons] at nd
    rw [List.map_cons]
    rcases List.mem_cons.mp h with e | e
    · subst e
      exact valV_pos rfl
    · have ne : ¬ (Sum.inr (key g) : Key) = Sum.inr (key f) := fun z => nd.1 (by
        rw [Sum.inr.inj z]
        exact List.mem_map.mpr ⟨f, e, rfl⟩)
      rw [valV_neg ne]
      exact val_in nd.2 e
theorem val_out {α : Type} {key : α → Str} {val : α → V} {z : Str} : ∀ {fs : List α}, (∀ f ∈ fs, key f ≠ z) → valV (fs.map fun f => ((Sum.inr (key f) : Key), val f)) (Sum.inr z) = none
  | [], _ => rfl
  | g :: fs, h => by
    rw [List.map_cons, valV_neg fun e => h g List.mem_cons_self (Sum.inr.inj e)]
    exact val_out fun f hf => h f (List.mem_cons_of_mem _ hf)
theorem fn_val {fs : List Fn} (nd : (fs.map (·.nm)).Nodup) {f : Fn} (h : f ∈ fs) : valV (fs.map kvF) (Sum.inr f.nm) = some (.ref f.at_) := val_in (key := Fn.nm) (val := fun f => V.ref f.at_) nd h
theorem lock_same {H H' : Hp} {d : Addr} {od : Obj} {u : HO} (h : H d = some u) (s : Same (upd H d (.frz od u)) H') : Same H (upd H' d u) := fun b o e => by
  by_cases hb : b = d
  · subst hb
    rw [upd_same]
    rw [h] at e
    exact e
  · rw [upd_ne hb]
    exact s b o (by rw [upd_ne hb]; exact e)
abbrev schF (dc ds dk lr lm : Addr) : List (Str × V) := [("its_columns", .ref dc), ("its_shapes", .ref ds), ("its_keys", .ref dk), ("its_references", .ref lr), ("its_made", .ref lm)]
/-- a schema without tables -/
structure Sch (C : Addr) (H : Hp) (x : Addr) (fs : List Fn) : Prop where
  ex : ∃ dx dc ds dk lr lm, H x = some (.ins C dx (schF dc ds dk lr lm)) ∧ H dc = some (.dK []) ∧ Fns H ds fs ∧ H dk = some (.dK []) ∧ H lr = some (.lst []) ∧ H lm = some (.lst [])
  nd : (fs.map (·.nm)).Nodup
  good : ∀ f ∈ fs, FnGood f
  few : fs.length ≤ 6
theorem Sch.same {C : Addr} {H H' : Hp} {x : Addr} {fs : List Fn} (s : Same H H') (h : Sch C H x fs) : Sch C H' x fs := by
  obtain ⟨⟨dx, dc, ds, dk, lr, lm, h1, h2, h3, h4, h5, h6⟩, nd, g, few⟩ := h
  exact ⟨⟨dx, dc, ds, dk, lr, lm, s _ _ h1, s _ _ h2, h3.same s, s _ _ h4, s _ _ h5, s _ _ h6⟩, nd, g, few⟩
/-- a schema whose kinds are read, its dict locked or not -/
structure SchR (C : Addr) (H : Hp) (x : Addr) (fs : List Fn) : Prop where
  ex : ∃ dx dc ds dk lr lm, H x = some (.ins C dx (schF dc ds dk lr lm)) ∧ Rd H ds (.dK (fs.map kvF)) ∧ ∀ f ∈ fs, H f.at_ = some (.tup [.int (f.many : Nat), .str f.kd])
  nd : (fs.map (·.nm)).Nodup
theorem Sch.r {C : Addr} {H : Hp} {x : Addr} {fs : List Fn} (h : Sch C H x fs) : SchR C H x fs := by
  obtain ⟨⟨dx, dc, ds, dk, lr, lm, h1, h2, h3, h4, h5, h6⟩, nd, g, few⟩ := h
  exact ⟨⟨dx, dc, ds, dk, lr, lm, h1, .inl h3.dk, h3.at_⟩, nd⟩
theorem Sch.locked {C : Addr} {H : Hp} {x d : Addr} {fs : List Fn} {od : Obj} {kvs : List (Key × V)} (h : Sch C H x fs) (hd : H d = some (.dK kvs)) : SchR C (upd H d (.frz od (.dK kvs))) x fs := by
  obtain ⟨⟨dx, dc, ds, dk, lr, lm, h1, h2, h3, h4, h5, h6⟩, nd, g, few⟩ := h
  refine ⟨⟨dx, dc, ds, dk, lr, lm, (upd_ne (ne_of h1 hd (by intro z; cases z))).trans h1, ?_, fun f hf => (upd_ne (ne_of (h3.at_ f hf) hd (by intro z; cases z))).trans (h3.at_ f hf)⟩, nd⟩
  by_cases e : ds = d
  · subst e
    have := h3.dk
    rw [hd] at this
    rw [← Option.some.inj this]
    exact .inr ⟨od, upd_same⟩
  · exact .inl ((upd_ne e).trans h3.dk)
theorem SchR.same {C : Addr} {H H' : Hp} {x : Addr} {fs : List Fn} (s : Same H H') (h : SchR C H x fs) : SchR C H' x fs := by
  obtain ⟨⟨dx, dc, ds, dk, lr, lm, h1, h2, h3⟩, nd⟩ := h
  refine ⟨⟨dx, dc, ds, dk, lr, lm, s _ _ h1, ?_, fun f hf => s _ _ (h3 f hf)⟩, nd⟩
  rcases h2 with e | ⟨o, e⟩
  · exact .inl (s _ _ e)
  · exact .inr ⟨o, s _ _ e⟩
/-- what the walk asks of the class -/
structure Cl (K : PySem.W.Frag) (mg : Str → Option Value) (C : Addr) : Prop where
  cl : Cls K C
  nC : NoAttr K C "its_columns"
  nS : NoAttr K C "its_shapes"
  nK : NoAttr K C "its_keys"
  nR : NoAttr K C "its_references"
  nM : NoAttr K C "its_made"
theorem lk_c {dc ds dk lr lm : Addr} : (schF dc ds dk lr lm).lookup ("its_columns" : Str) = some (.ref dc) := by rfl
theorem lk_s {dc ds dk lr lm : Addr} : (schF dc ds dk lr lm).lookup ("its_shapes" : Str) = some (.ref ds) := by rfl
theorem lk_k {dc ds dk lr lm : Addr} : (schF dc ds dk lr lm).lookup ("its_keys" : Str) = some (.ref dk) := by rfl
theorem lk_r {dc ds dk lr lm : Addr} : (schF dc ds dk lr lm).lookup ("its_references" : Str) = some (.ref lr) := by rfl
theorem lk_m {dc ds dk lr lm : Addr} : (schF dc ds dk lr lm).lookup ("its_made" : Str) = some (.ref lm) := by rfl
section
variable {base : Heap} {mg : Str → Option Value} {K : PySem.W.Frag} {w : World} {P : Program}
/-! ### is_shape -/
def spIsShape : Sp := fun vs H Q _ => ∃ (t : Addr) (n : Nat) (kd : Str), vs = [.ref t] ∧ H t = some (.tup [.int n, .str kd]) ∧ n ≤ 3 ∧ kd ∈ KN ∧ Q (.bl true) H
theorem cal_isShape (B : Bi mg) (G : Co K mg) (D : DefAt K mg "is_shape" sIsShape pIsShape) (c1 : Cal P w K mg base 1 "is_integer" spIsInt) (c2 : Cal P w K mg base 1 "is_kind" spIsKind) : Cal P w K mg base 2 "is_shape" spIsShape := by
  refine D.cal (k := 1) scIsShape (fun vs H Q E h => ?_) (fun cdv f A outer s H vs Q E hr h => ?_)
  · obtain ⟨t, n, kd, rfl, _⟩ := h
    rfl
  · obtain ⟨t, n, kd, rfl, ht, hn, hk, q⟩ := h
    obtain ⟨tk, hm⟩ := G.mostArgs
    have hS : SqT K H t [.int n, .str kd] := SqT.of ht
    refine ⟨_, pss_cons (ps_if (PW.pt (pw_or (pt_not (pt_val (pe_callB call_isi (by rfl) B.isinstance (by decide +kernel) (pa_cons (pv 0) (pa_cons (pe_bltn (v := .ty "tuple") (by rfl) B.tuple (by decide +kernel) rfl) pa_nil)))))
        (pw_or (pt_cmpR op_ne (pe_callB call_len_seq (by rfl) B.len PySem.boot_len (pa_cons (pv 0) pa_nil)) pe_int (nomark _))
        (pw_or1 (pt_not (pt_val (pe_cl c1 hr (Nat.le_refl _) (by rfl) (pa_cons (pe_ix ix_tup (pv 0) pe_int (fun _ _ => rfl)) pa_nil))))))))
        (pss_one (ps_ret pe_bl)) pss_nil)
      (pss_one (ps_ret (pe_and (pe_chain op_le op_le pe_int (pe_ix ix_tup (pv 0) pe_int (fun _ _ => rfl)) (pe_glob (v := .int 3) rfl hm ⟨_, rfl⟩))
        (pe_one (pe_cl c2 hr (Nat.le_refl _) (by rfl) (pa_cons (pe_ix ix_tup (pv 0) pe_int (fun _ _ => rfl)) pa_nil)))))), ?_⟩
    refine ⟨_, rfl, _, _, _, _, true, rfl, .ty _, .base (.tup ht), kit_ty (by decide +kernel), true, rfl, iteF ?_⟩
    refine ⟨_, rfl, t, _, rfl, .inr hS, rfl, _, rfl, ?_⟩
    rw [decide_eq_true (show V.int (([V.int (n : Int), V.str kd].length : Nat) : Int) = V.int 2 from rfl)]
    refine iteF ⟨_, rfl, t, _, 0, .int n, rfl, rfl, hS, rfl, n, rfl, true, rfl, iteF ?_⟩
    refine ⟨_, rfl, t, _, 0, .int n, rfl, rfl, hS, rfl, _, _, rfl, rfl, _, rfl, ?_⟩
    rw [decide_eq_true (show (0 : Int) ≤ (n : Int) by omega)]
    refine iteT ⟨_, _, rfl, rfl, _, rfl, ?_⟩
    rw [decide_eq_true (show (n : Int) ≤ 3 by omega)]
    exact iteT ⟨_, rfl, t, _, 1, .str kd, rfl, rfl, hS, rfl, kd, rfl, hk, q⟩
/-! ### is_dict_of, is_dict_of_names -/
def spIsDictOf (mg : Str → Option Value) : Sp := fun vs H Q _ => ∃ (j d : Addr) (fs : List Fn), vs = [.ref j, .ref d] ∧ Fns H d fs ∧ (∀ f ∈ fs, FnGood f) ∧ fs.length ≤ 6 ∧ (fs = [] ∨ mg "is_shape" = some (.ref j)) ∧ ∀ H', Same H H' → Q (.bl true) H'
theorem cal_isDictOf (B : Bi mg) (G : Co K mg) (D : DefAt K mg "is_dict_of" sIsDictOf pIsDictOf) (c1 : Cal P w K mg base 1 "is_name" spIsName) (c2 : Cal P w K mg base 2 "is_shape" spIsShape) : Cal P w K mg base 3 "is_dict_of" (spIsDictOf mg) := by
  refine D.cal (k := 2) scIsDictOf (fun vs H Q E h => ?_) (fun cdv f A outer s H vs Q E hr h => ?_)
  · obtain ⟨j, d, fs, rfl, _⟩ := h
    rfl
  · obtain ⟨j, d, fs, rfl, X, good, few, hj, q⟩ := h
    obtain ⟨tk, hm⟩ := G.mostNames
    obtain ⟨fS, fdS, psS, F2, m2, kp2, b2⟩ := c2.ex
    refine ⟨_, pss_cons (ps_if (PW.pt (pw_or (pt_not (pt_val (pe_callB call_isi (by rfl) B.isinstance (by decide +kernel) (pa_cons (pv 1) (pa_cons (pe_bltn (v := .ty "dict") (by rfl) B.dict (by decide +kernel) rfl) pa_nil)))))
        (pw_or1 (pt_cmpR op_gt (pe_callB call_lenD (by rfl) B.len PySem.boot_len (pa_cons (pv 1) pa_nil)) (pe_glob (v := .int 6) rfl hm ⟨_, rfl⟩) (nomark _)))))
        (pss_one (ps_ret pe_bl)) pss_nil)
      (pss_one (ps_ret (pe_callB (cr_all rfl) (by rfl) B.all (by decide +kernel)
        (pa_cons (pe_lock (pe_lc (own := [("name", 2), ("one", 3)]) (g := gTup K 2 (gCons (gName 2) (gCons (gName 3) gNil))) (tt := tYes) rfl scIsDictOf.nd (pi_items (pv 1)) (blkOk_by (N := nIsDictOf) (sc := defScope sIsDictOf) (by decide +kernel))
          (fun _ _ _ _ _ => pg_tup rfl (pgs_cons (pg_name (i := 2) scIsDictOf.nd rfl (Or.inl rfl)) (pgs_cons (pg_name (i := 3) scIsDictOf.nd rfl (Or.inl rfl)) pgs_nil))) (fun _ _ _ _ _ => pts_nil)
          (fun _ _ _ _ _ => pe_and (pe_cl c1 hr (by decide) (by rfl) (pa_cons (pv 2) pa_nil))
            (pe_one (pe_callA (i := 0) (k := 2) (S := fun a => if a = fS then some spIsShape else none) (fun a sp z => by
                by_cases e : a = fS
                · rw [if_pos e] at z
                  cases z
                  subst e
                  exact ⟨fdS, psS, F2, kp2, b2⟩
                · rw [if_neg e] at z
                  cases z) hr rfl (Or.inr (Or.inl rfl)) (pa_cons (pv 3) pa_nil)))))) pa_nil)))), ?_⟩
    refine ⟨_, rfl, _, _, _, _, true, rfl, .ty _, .base (.dK X.dk), kit_ty (by decide +kernel), true, rfl, iteF ?_⟩
    refine ⟨_, rfl, d, _, rfl, X.dk, _, _, rfl, rfl, _, rfl, ?_⟩
    rw [decide_eq_false (show ¬ (6 : Int) < ((fs.map kvF).length : Nat) by rw [List.length_map]; omega)]
    refine iteF ⟨d, _, X.dk, trivial, fun od => ?_⟩
    refine ⟨_, rfl, d, od, fs.map kvF, rfl, upd_same, fun p hp => ?_⟩
    have hj' : fs = [] ∨ j = fS := hj.imp id fun e => by
      rw [m2] at e
      injection e with e
      injection e with e
      exact e.symm
    refine lc_it (walk_items (kvs := fs.map kvF)) (fun i H' => Same (upd H d (.frz od (.dK (fs.map kvF)))) H' ∧ H' p = some (.lst (List.replicate i (.bl true)))) ⟨sm_new (.refl _) hp, upd_same⟩ (fun _ _ _ h => h.1 _ _ upd_same) ?_ ?_
    · rintro i x H1 H2 hi ⟨s1, e⟩ ⟨T, y1, y2, rfl, nT, rfl, g1, g2⟩
      rw [List.length_map] at hi
      have gf : fs[i]? = some fs[i] := List.getElem?_eq_getElem hi
      have mf : fs[i] ∈ fs := List.getElem_mem hi
      have g1 : ((fs.map kvF)[i]?).map (fun kv => kV kv.1) = some y1 := g1
      have g2 : ((fs.map kvF)[i]?).map Prod.snd = some y2 := g2
      rw [List.getElem?_map, gf] at g1 g2
      cases g1
      cases g2
      have s2 := sm_new (o := .tup [kV (kvF fs[i]).1, (kvF fs[i]).2]) s1 nT
      refine ⟨T, _, rfl, SqT.of upd_same, rfl, _, _, rfl, _, _, rfl, rfl, rfl, ?_⟩
      refine ⟨_, rfl, fs[i].nm, rfl, (good _ mf).nm, fun H3 s23 => ⟨true, rfl, iteT ?_⟩⟩
      have ej : j = fS := hj'.resolve_left (List.ne_nil_of_mem mf)
      have s3 := s2.trans s23
      have ne : fs[i].at_ ≠ d := ne_of (X.at_ _ mf) X.dk (by intro z; cases z)
      refine ⟨fS, spIsShape, by rw [ej]; rfl, if_pos rfl, _, rfl, fs[i].at_, fs[i].many, fs[i].kd, rfl, s3 _ _ ((upd_ne ne).trans (X.at_ _ mf)), (good _ mf).many, (good _ mf).kd, ?_⟩
      have e3 := s23 _ _ (keep1 (u := .tup [kV (kvF fs[i]).1, (kvF fs[i]).2]) e nT)
      refine ⟨_, e3, ?_, sm_put s3 hp, ?_⟩
      · rw [List.length_replicate]
        exact small1000 (by omega)
      · rw [upd_same, List.replicate_succ']
    · rintro H1 ⟨s1, e⟩
      rw [List.length_map] at e
      refine ⟨s1 _ _ upd_same, p, List.replicate fs.length true, rfl, SqL.of ?_, ?_⟩
      · rw [List.map_replicate]
        have ne : p ≠ d := fun z => by
          rw [z, upd_same] at hp
          cases hp
        rw [upd_ne ne]
        exact e
      · have : (List.replicate fs.length true).all id = true := by simp
        rw [this]
        exact q _ (lock_same X.dk s1)
def spIsDictOfNames : Sp := fun vs H Q _ => ∃ d : Addr, vs = [.ref d] ∧ H d = some (.dK []) ∧ ∀ H', Same H H' → Q (.bl true) H'
theorem cal_isDictOfNames (B : Bi mg) (D : DefAt K mg "is_dict_of_names" sIsDictOfNames pIsDictOfNames) (c1 : Cal P w K mg base 1 "is_name" spIsName) : Cal P w K mg base 2 "is_dict_of_names" spIsDictOfNames := by
  refine D.cal (k := 1) scIsDictOfNames (fun vs H Q E h => ?_) (fun cdv f A outer s H vs Q E hr h => ?_)
  · obtain ⟨d, rfl, _⟩ := h
    rfl
  · obtain ⟨d, rfl, hd, q⟩ := h
    refine ⟨_, pss_one (ps_ret (pe_and (pe_callB call_isi (by rfl) B.isinstance (by decide +kernel) (pa_cons (pv 0) (pa_cons (pe_bltn (v := .ty "dict") (by rfl) B.dict (by decide +kernel) rfl) pa_nil)))
      (pe_one (pe_callB (cr_all rfl) (by rfl) B.all (by decide +kernel)
        (pa_cons (pe_lock (pe_lc (own := [("name", 1), ("one", 2)]) (g := gTup K 2 (gCons (gName 1) (gCons (gName 2) gNil))) (tt := tYes) rfl scIsDictOfNames.nd (pi_items (pv 0)) (blkOk_by (N := nIsDictOfNames) (sc := defScope sIsDictOfNames) (by decide +kernel))
          (fun _ _ _ _ _ => pg_tup rfl (pgs_cons (pg_name (i := 1) scIsDictOfNames.nd rfl (Or.inl rfl)) (pgs_cons (pg_name (i := 2) scIsDictOfNames.nd rfl (Or.inl rfl)) pgs_nil))) (fun _ _ _ _ _ => pts_nil)
          (fun _ _ _ _ _ => pe_and (pe_cl c1 hr (by decide) (by rfl) (pa_cons (pv 1) pa_nil))
            (pe_one (pe_cl c1 hr (by decide) (by rfl) (pa_cons (pv 2) pa_nil)))))) pa_nil))))), ?_⟩
    refine ⟨_, rfl, _, _, _, _, true, rfl, .ty _, .base (.dK hd), kit_ty (by decide +kernel), true, rfl, iteT ?_⟩
    refine ⟨d, _, hd, trivial, fun od => ?_⟩
    refine ⟨_, rfl, d, od, [], rfl, upd_same, fun p hp => ?_⟩
    refine lc_it (walk_items (kvs := [])) (fun i H' => Same (upd H d (.frz od (.dK []))) H' ∧ H' p = some (.lst [])) ⟨sm_new (.refl _) hp, upd_same⟩ (fun _ _ _ h => h.1 _ _ upd_same) ?_ ?_
    · rintro i x H1 H2 hi _ _
      exact absurd hi (Nat.not_lt_zero _)
    · rintro H1 ⟨s1, e⟩
      refine ⟨s1 _ _ upd_same, p, [], rfl, SqL.of ?_, q _ (lock_same hd s1)⟩
      have ne : p ≠ d := fun z => by
        rw [z, upd_same] at hp
        cases hp
      rw [upd_ne ne]
      exact e
/-! ### the methods that only read -/
def spFunctions (C : Addr) : Sp := fun vs H Q _ => ∃ (x : Addr) (fs : List Fn), vs = [.ref x] ∧ Sch C H x fs ∧ ∀ (ys : List Str) (p : Addr), ys.Perm (fs.map (·.nm)) → H p = none → Q (.ref p) (upd H p (.lst (ys.map V.str)))
theorem met_functions {C : Addr} (B : Bi mg) (T : Cl K mg C) (D : MetAt K C "functions" "Schema.functions" sFunctions pFunctions) : Met P w K mg base 1 C "functions" (spFunctions C) := by
  refine D.met (k := 0) scFunctions (fun vs H Q E h => ?_) (fun cdv f A outer s H vs Q E hr h => ?_)
  · obtain ⟨x, fs, rfl, _⟩ := h
    rfl
  · obtain ⟨x, fs, rfl, S, q⟩ := h
    obtain ⟨dx, dc, ds, dk, lr, lm, h1, h2, h3, h4, h5, h6⟩ := S.ex
    refine ⟨_, pss_one (ps_ret (pe_callB (call_sortedD rfl) (by rfl) B.sorted (by decide +kernel) (pa_cons (pe_fld (pv 0) rfl) pa_nil))), ?_⟩
    refine ⟨_, rfl, x, C, dx, _, _, rfl, h1, T.cl, T.nS, lk_s, ds, _, fs.map (·.nm), rfl, .inl h3.dk, ?_, ?_, fun ys p pm _ np => q ys p pm np⟩
    · rw [List.map_map, List.map_map]
      rfl
    · rw [List.length_map]
      have := S.few
      omega
def spArguments (C : Addr) : Sp := fun vs H Q _ => ∃ (x : Addr) (fs : List Fn) (f : Fn), vs = [.ref x, .str f.nm] ∧ Sch C H x fs ∧ f ∈ fs ∧ Q (.int (f.many : Nat)) H
theorem met_arguments {C : Addr} (T : Cl K mg C) (D : MetAt K C "arguments" "Schema.arguments" sArguments pArguments) : Met P w K mg base 1 C "arguments" (spArguments C) := by
  refine D.met (k := 0) scArguments (fun vs H Q E h => ?_) (fun cdv ff A outer s H vs Q E hr h => ?_)
  · obtain ⟨x, fs, f, rfl, _⟩ := h
    rfl
  · obtain ⟨x, fs, f, rfl, S, hf, q⟩ := h
    obtain ⟨dx, dc, ds, dk, lr, lm, h1, h2, h3, h4, h5, h6⟩ := S.ex
    have hu := hu_of hr
    have v := DGet.k (k := Sum.inr f.nm) h3.dk
    rw [fn_val S.nd hf] at v
    refine ⟨_, pss_cons (ps_if (pt_cmp (pc_dnotin hu (pv 1) (pe_fld (pv 0) rfl))) (pss_one ps_never) pss_nil)
      (pss_one (ps_ret (pe_ix ix_tup (pe_dget hu (pe_fld (pv 0) rfl) (pv 1) (fun _ _ => rfl)) pe_int (fun _ _ => rfl)))), ?_⟩
    refine ⟨_, rfl, _, rfl, x, C, dx, _, _, rfl, h1, T.cl, T.nS, lk_s, ds, _, rfl, v, _, rfl, iteF ?_⟩
    exact ⟨_, rfl, x, C, dx, _, _, rfl, h1, T.cl, T.nS, lk_s, _, rfl, ds, _, rfl, v, f.at_, _, 0, .int (f.many : Nat), rfl, rfl, SqT.of (h3.at_ f hf), rfl, q⟩
def spKind (C : Addr) : Sp := fun vs H Q _ => ∃ (x : Addr) (fs : List Fn) (f : Fn), vs = [.ref x, .str f.nm] ∧ SchR C H x fs ∧ f ∈ fs ∧ Q (.str f.kd) H
theorem met_kind {C : Addr} (T : Cl K mg C) (D : MetAt K C "kind" "Schema.kind" sKind pKind) : Met P w K mg base 1 C "kind" (spKind C) := by
  refine D.met (k := 0) scKind (fun vs H Q E h => ?_) (fun cdv ff A outer s H vs Q E hr h => ?_)
  · obtain ⟨x, fs, f, rfl, _⟩ := h
    rfl
  · obtain ⟨x, fs, f, rfl, S, hf, q⟩ := h
    obtain ⟨dx, dc, ds, dk, lr, lm, h1, h2, h3⟩ := S.ex
    have hu := hu_of hr
    have v : DGet H ds (.str f.nm) (some (.ref f.at_)) := .inl ⟨fs.map kvF, Sum.inr f.nm, h2, rfl, (fn_val S.nd hf).symm⟩
    refine ⟨_, pss_cons (ps_if (pt_cmp (pc_dnotin hu (pv 1) (pe_fld (pv 0) rfl))) (pss_one ps_never) pss_nil)
      (pss_one (ps_ret (pe_ix ix_tup (pe_dget hu (pe_fld (pv 0) rfl) (pv 1) (fun _ _ => rfl)) pe_int (fun _ _ => rfl)))), ?_⟩
    refine ⟨_, rfl, _, rfl, x, C, dx, _, _, rfl, h1, T.cl, T.nS, lk_s, ds, _, rfl, v, _, rfl, iteF ?_⟩
    exact ⟨_, rfl, x, C, dx, _, _, rfl, h1, T.cl, T.nS, lk_s, _, rfl, ds, _, rfl, v, f.at_, _, 1, .str f.kd, rfl, rfl, SqT.of (h3 f hf), rfl, q⟩
end
end K17
set_option Elab.async false
set_option linter.all false
set_option maxRecDepth 100000
set_option maxHeartbeats 4000000
namespace K17
open PySem PySem.Spec PyProof.Rows L2 PpSet
/-! ### a schema is made -/
/-- all but x is kept -/
def Keep (x : Addr) (H H' : Hp) : Prop := ∀ b o, b ≠ x → H b = some o → H' b = some o
theorem Keep.of {x : Addr} {H H' : Hp} (s : Same H H') : Keep x H H' := fun b o _ e => s b o e
theorem Keep.same {x : Addr} {H H1 H2 : Hp} (k : Keep x H H1) (s : Same H1 H2) : Keep x H H2 := fun b o n e => s b o (k b o n e)
theorem Keep.put {x : Addr} {H H1 : Hp} {o : HO} (k : Keep x H H1) : Keep x H (upd H1 x o) := fun b u n e => (upd_ne n).trans (k b u n e)
theorem Keep.new {x p : Addr} {H H1 : Hp} {o : HO} (k : Keep x H H1) (n : H1 p = none) : Keep x H (upd H1 p o) := k.same (sm_new (.refl _) n)
theorem Keep.trans {x : Addr} {H H1 H2 : Hp} (k : Keep x H H1) (l : Keep x H1 H2) : Keep x H H2 := fun b o n e => l b o n (k b o n e)
theorem Fns.keep {x d : Addr} {H H' : Hp} {C dx : Addr} {F : List (Str × V)} {fs : List Fn} (k : Keep x H H') (hx : H x = some (.ins C dx F)) (X : Fns H d fs) : Fns H' d fs :=
  ⟨k _ _ (ne_of X.dk hx (by intro z; cases z)) X.dk, fun f hf => k _ _ (ne_of (X.at_ f hf) hx (by intro z; cases z)) (X.at_ f hf)⟩
/-- an empty list, or an empty tuple of the text's own -/
def Emp (K : PySem.W.Frag) (H : Hp) (a : Addr) : Prop := H a = some (.lst []) ∨ ∃ o, K.lookup a = some o ∧ o.cls = .type "tuple" ∧ ∀ H' : Hp, SqT K H' a []
theorem Emp.sq {K : PySem.W.Frag} {H : Hp} {a : Addr} (h : Emp K H a) : SqL K H a [] ∨ SqT K H a [] := h.imp SqL.of fun ⟨_, _, _, h⟩ => h H
theorem Emp.keep {K : PySem.W.Frag} {x a : Addr} {H H' : Hp} {C dx : Addr} {F : List (Str × V)} (k : Keep x H H') (hx : H x = some (.ins C dx F)) (h : Emp K H a) : Emp K H' a :=
  h.imp (fun e => k _ _ (ne_of e hx (by intro z; cases z)) e) id
theorem Emp.same {K : PySem.W.Frag} {a : Addr} {H H' : Hp} (s : Same H H') (h : Emp K H a) : Emp K H' a := h.imp (s _ _) id
section
variable {base : Heap} {mg : Str → Option Value} {K : PySem.W.Frag} {w : World} {P : Program}
def spCheckKeys (C : Addr) : Sp := fun vs H Q _ => ∃ (x dx dk : Addr) (F : List (Str × V)), vs = [.ref x] ∧ H x = some (.ins C dx F) ∧ F.lookup ("its_keys" : Str) = some (.ref dk) ∧ H dk = some (.dK []) ∧ ∀ H', Same H H' → Q .non H'
theorem met_checkKeys {C : Addr} (B : Bi mg) (T : Cl K mg C) (D : MetAt K C "check_keys" "Schema.check_keys" sCheckKeys pCheckKeys) : Met P w K mg base 1 C "check_keys" (spCheckKeys C) := by
  refine D.met (k := 0) scCheckKeys (fun vs H Q E h => ?_) (fun cdv f A outer s H vs Q E hr h => ?_)
  · obtain ⟨x, dx, dk, F, rfl, _⟩ := h
    rfl
  · obtain ⟨x, dx, dk, F, rfl, hx, lk, hd, q⟩ := h
    refine ⟨_, pss_one (ps_for PassesOwn.never rfl (pi_list (pe_callB (call_sortedD rfl) (by rfl) B.sorted (by decide +kernel) (pa_cons (pe_fld (pv 0) rfl) pa_nil))) (pg_name (i := 1) scCheckKeys.nd rfl (.inl rfl)) pss_never), ?_⟩
    refine ⟨_, rfl, x, C, dx, F, _, rfl, hx, T.cl, T.nK, lk, dk, [], [], rfl, .inl hd, rfl, by decide, fun ys p pm _ np => ?_⟩
    have e : ys = [] := List.Perm.eq_nil pm
    subst e
    have s1 := sm_new (o := .lst []) (.refl H) np
    refine ⟨p, rfl, ⟨_, SqL.of upd_same⟩, for_it (walk_list (xs := [])) (fun _ _ H' => Same H H' ∧ H' p = some (.lst [])) ⟨s1, upd_same⟩ (fun _ _ _ _ h => SqL.of h.2) (fun i _ _ _ _ hi _ _ => absurd hi (Nat.not_lt_zero _)) fun _ H' h => q H' h.1⟩
def spCheckedRefs : Sp := fun vs H Q _ => ∃ (x l : Addr), vs = [.ref x, .ref l] ∧ H l = some (.lst []) ∧ ∀ H' p, Same H H' → H p = none → H' p = some (.lst []) → Q (.ref p) H'
theorem met_checkedRefs {C : Addr} (B : Bi mg) (D : MetAt K C "checked_references" "Schema.checked_references" sCheckedRefs pCheckedRefs) : Met P w K mg base 1 C "checked_references" spCheckedRefs := by
  refine D.met (k := 0) scCheckedRefs (fun vs H Q E h => ?_) (fun cdv f A outer s H vs Q E hr h => ?_)
  · obtain ⟨x, l, rfl, _⟩ := h
    rfl
  · obtain ⟨x, l, rfl, hl, q⟩ := h
    refine ⟨_, pss_cons (ps_for PassesOwn.never rfl (pi_enum (by rfl) B.enumerate (pa_cons (pv 1) pa_nil))
        (pg_tup rfl (pgs_cons (pg_name (i := 2) scCheckedRefs.nd rfl (.inl rfl)) (pgs_cons (pg_tup rfl (pgs_cons (pg_name (i := 3) scCheckedRefs.nd rfl (.inl rfl))
          (pgs_cons (pg_name (i := 4) scCheckedRefs.nd rfl (.inl rfl)) (pgs_cons (pg_name (i := 5) scCheckedRefs.nd rfl (.inl rfl)) pgs_nil)))) pgs_nil))) pss_never)
      (pss_one (ps_ret (pe_callB (cr_sortedT rfl) (by rfl) B.sorted (by decide +kernel) (pa_cons (pe_callTy (cr_setT rfl) (by rfl) B.set (by decide +kernel) (pa_cons (pv 1) pa_nil)) pa_nil)))), ?_⟩
    refine ⟨_, rfl, l, [], rfl, SqL.of hl, for_it (walk_enum (xs := [])) (fun _ σ H' => σ = [some (.ref x), some (.ref l), none, none, none, none] ∧ H' = H) ⟨rfl, rfl⟩ (fun _ _ _ _ h => SqL.of (h.2 ▸ hl)) (fun i _ _ _ _ hi _ _ => absurd hi (Nat.not_lt_zero _)) ?_⟩
    rintro σ H' ⟨rfl, rfl⟩
    refine ⟨_, rfl, l, [], rfl, SqL.of hl, by decide, fun p ls np nd len mem => ?_⟩
    have e : ls = [] := List.eq_nil_iff_forall_not_mem.mpr fun z hz => nomatch (mem z).mp hz
    subst e
    have s1 := sm_new (o := SetT w p []) (.refl H') np
    refine ⟨p, [], rfl, upd_same, by decide, fun ys p2 pm np2 => ?_⟩
    have e2 : ys = [] := List.Perm.eq_nil pm
    subst e2
    exact q _ p2 (sm_new s1 np2) (s1.free np2) upd_same
def spCheckedMade (C : Addr) : Sp := fun vs H Q _ => ∃ (x l dx lr : Addr) (F : List (Str × V)), vs = [.ref x, .ref l] ∧ H l = some (.lst []) ∧ H x = some (.ins C dx F) ∧ F.lookup ("its_references" : Str) = some (.ref lr) ∧ H lr = some (.lst []) ∧
  ∀ H' p, Same H H' → H p = none → H' p = some (.lst []) → Q (.ref p) H'
theorem met_checkedMade {C : Addr} (B : Bi mg) (T : Cl K mg C) (D : MetAt K C "checked_made" "Schema.checked_made" sCheckedMade pCheckedMade) : Met P w K mg base 1 C "checked_made" (spCheckedMade C) := by
  refine D.met (k := 0) scCheckedMade (fun vs H Q E h => ?_) (fun cdv f A outer s H vs Q E hr h => ?_)
  · obtain ⟨x, l, dx, lr, F, rfl, _⟩ := h
    rfl
  · obtain ⟨x, l, dx, lr, F, rfl, hl, hx, lk, hlr, q⟩ := h
    refine ⟨_, pss_cons (ps_set (i := 2) scCheckedMade.nd rfl (.inl rfl) pe_dnewK)
      (pss_cons (ps_setSc (i := 5) (own := [("table", 3), ("column", 4), ("target", 10)]) (g := gTup K 3 (gCons (gName 3) (gCons (gName 4) (gCons (gName 10) gNil)))) (tt := tYes) rfl scCheckedMade.nd rfl rfl (sw_sc rfl rfl rfl (by decide +kernel))
          (pi_list (pe_fld (pv 0) rfl)) (blkOk_by (N := nCheckedMade) (sc := defScope sCheckedMade) (by decide +kernel))
          (fun _ _ _ _ _ => pg_tup rfl (pgs_cons (pg_name (i := 3) scCheckedMade.nd rfl (Or.inl rfl)) (pgs_cons (pg_name (i := 4) scCheckedMade.nd rfl (Or.inl rfl)) (pgs_cons (pg_name (i := 10) scCheckedMade.nd rfl (Or.inl rfl)) pgs_nil))))
          (fun _ _ _ _ _ => pts_nil) (fun _ _ _ _ _ => pe_tup (pa_cons (pv 3) (pa_cons (pv 4) pa_nil))))
      (pss_cons (ps_for PassesOwn.never rfl (pi_enum (by rfl) B.enumerate (pa_cons (pv 1) pa_nil))
        (pg_tup rfl (pgs_cons (pg_name (i := 6) scCheckedMade.nd rfl (.inl rfl)) (pgs_cons (pg_tup rfl (pgs_cons (pg_name (i := 3) scCheckedMade.nd rfl (.inl rfl))
          (pgs_cons (pg_name (i := 4) scCheckedMade.nd rfl (.inl rfl)) (pgs_cons (pg_name (i := 7) scCheckedMade.nd rfl (.inl rfl)) (pgs_cons (pg_name (i := 8) scCheckedMade.nd rfl (.inl rfl)) pgs_nil))))) pgs_nil))) pss_never)
      (pss_one (ps_ret (pe_callB (cr_sortedT rfl) (by rfl) B.sorted (by decide +kernel) (pa_cons (pe_callTy (cr_setT rfl) (by rfl) B.set (by decide +kernel) (pa_cons (pv 1) pa_nil)) pa_nil)))))), ?_⟩
    intro kn nk
    have s0 := sm_new (o := .dK []) (.refl H) nk
    refine ⟨_, rfl, x, C, dx, F, _, rfl, s0 _ _ hx, T.cl, T.nR, lk, lr, rfl, ⟨[], SqL.of (s0 _ _ hlr)⟩, fun D nD => ?_⟩
    have s1 := sm_new (o := SetBO w D (fun _ => false) 0) s0 nD
    refine sc_none (walk_list (xs := [])) (SqL.of (s1 _ _ hlr)) ?_
    refine ⟨_, rfl, l, [], rfl, SqL.of (s1 _ _ hl), for_it (walk_enum (xs := [])) (fun _ σ H' => σ = [some (.ref x), some (.ref l), some (.ref kn), none, none, some (.ref D), none, none, none, none, none, none] ∧ Same H H') ⟨rfl, s1⟩
      (fun _ _ _ _ h => SqL.of (h.2 _ _ hl)) (fun i _ _ _ _ hi _ _ => absurd hi (Nat.not_lt_zero _)) ?_⟩
    rintro σ H' ⟨rfl, s2⟩
    refine ⟨_, rfl, l, [], rfl, SqL.of (s2 _ _ hl), by decide, fun p ls np nd len mem => ?_⟩
    have e : ls = [] := List.eq_nil_iff_forall_not_mem.mpr fun z hz => nomatch (mem z).mp hz
    subst e
    have s3 := sm_new (o := SetT w p []) s2 np
    refine ⟨p, [], rfl, upd_same, by decide, fun ys p2 pm np2 => ?_⟩
    have e2 : ys = [] := List.Perm.eq_nil pm
    subst e2
    exact q _ p2 (sm_new s3 np2) (s3.free np2) upd_same
def spCheckRings (C : Addr) : Sp := fun vs H Q _ => ∃ (x dx lm : Addr) (F : List (Str × V)), vs = [.ref x] ∧ H x = some (.ins C dx F) ∧ F.lookup ("its_made" : Str) = some (.ref lm) ∧ H lm = some (.lst []) ∧ Q .non H
theorem met_checkRings {C : Addr} (T : Cl K mg C) (D : MetAt K C "check_rings" "Schema.check_rings" sCheckRings pCheckRings) : Met P w K mg base 1 C "check_rings" (spCheckRings C) := by
  refine D.met (k := 0) scCheckRings (fun vs H Q E h => ?_) (fun cdv f A outer s H vs Q E hr h => ?_)
  · obtain ⟨x, dx, lm, F, rfl, _⟩ := h
    rfl
  · obtain ⟨x, dx, lm, F, rfl, hx, lk, hm, q⟩ := h
    refine ⟨_, pss_one (ps_for PassesOwn.never rfl (pi_list (pe_fld (pv 0) rfl)) (pg_tup rfl (pgs_cons (pg_name (i := 1) scCheckRings.nd rfl (.inl rfl)) (pgs_cons (pg_name (i := 2) scCheckRings.nd rfl (.inl rfl))
      (pgs_cons (pg_name (i := 3) scCheckRings.nd rfl (.inl rfl)) (pgs_cons (pg_name (i := 4) scCheckRings.nd rfl (.inl rfl)) pgs_nil))))) pss_never), ?_⟩
    refine ⟨_, rfl, x, C, dx, F, _, rfl, hx, T.cl, T.nM, lk, lm, rfl, ⟨[], SqL.of hm⟩, for_it (walk_list (xs := [])) (fun _ _ H' => H' = H) rfl (fun _ _ _ _ h => SqL.of (h ▸ hm)) (fun i _ _ _ _ hi _ _ => absurd hi (Nat.not_lt_zero _)) ?_⟩
    rintro σ H' rfl
    exact q
end
end K17
set_option Elab.async false
set_option linter.all false
set_option maxRecDepth 100000
set_option maxHeartbeats 4000000
namespace K17
open PySem PySem.Spec PyProof.Rows L2 PpSet
/-! ### Schema(..), with_kinds -/
def rListOf (K : PySem.W.Frag) : List V → Hp → VK → Prop := fun vs H Q => ∃ (p : Addr) (ys : List V), vs = [.ref p] ∧ (SqL K H p ys ∨ SqT K H p ys) ∧ ∀ l, H l = none → Q (.ref l) (upd H l (.lst ys))
theorem cr_listOf {X : Cx} : CallR X (.type "list") (rListOf X.K) := call_list_of
def spInit (K : PySem.W.Frag) (C : Addr) : Sp := fun vs H Q _ => ∃ (x dx tb fn rf md : Addr) (kv : V) (fs : List Fn), vs = [.ref x, .ref tb, .ref fn, kv, .ref rf, .ref md] ∧ H x = some (.ins C dx []) ∧ H tb = some (.dK []) ∧
  Fns H fn fs ∧ (fs.map (·.nm)).Nodup ∧ (∀ f ∈ fs, FnGood f) ∧ fs.length ≤ 6 ∧ (kv = .non ∨ ∃ d, kv = .ref d ∧ H d = some (.dK [])) ∧ Emp K H rf ∧ Emp K H md ∧
  ∀ H', Keep x H H' → Sch C H' x fs → Q .non H'
abbrev kwI (e1 e2 : Addr) : List (Str × V) := [("keys", .non), ("references", .ref e1), ("made", .ref e2)]
/-- Schema.__init__ as it stands behind the top -/
structure MakAt (K : PySem.W.Frag) (mg : Str → Option Value) (C : Addr) (f : Addr) (fd : FuncData) (e1 e2 : Addr) : Prop where
  F : FunD K "__init__" "Schema.__init__" (defArgs sInit) (defBody sInit) (defScope sInit) [] (kwI e1 e2) f fd
  M : Mk K C f
  mgC : mg "Schema" = some (.ref C)
  E1 : ∀ H, Emp K H e1
  E2 : ∀ H, Emp K H e2
/-- the defs that __init__ only hands on -/
structure Fv (mg : Str → Option Value) : Prop where
  cols : ∃ a, mg "are_columns" = some (.ref a)
  shape : ∃ a, mg "is_shape" = some (.ref a)
  refs : ∃ a, mg "is_reference" = some (.ref a)
  made : ∃ a, mg "is_made" = some (.ref a)
section
variable {base : Heap} {mg : Str → Option Value} {K : PySem.W.Frag} {w : World} {P : Program}
theorem fn_init {C f e1 e2 : Addr} {fd : FuncData} (B : Bi mg) (T : Cl K mg C) (V0 : Fv mg) (M : MakAt K mg C f fd e1 e2)
    (c1 : Cal P w K mg base 3 "is_dict_of" (spIsDictOf mg)) (c2 : Cal P w K mg base 2 "is_dict_of_names" spIsDictOfNames) (c3 : Cal P w K mg base 1 "is_list_of" (spIsListOf K))
    (m1 : Met P w K mg base 1 C "check_keys" (spCheckKeys C)) (m2 : Met P w K mg base 1 C "checked_references" spCheckedRefs)
    (m3 : Met P w K mg base 1 C "checked_made" (spCheckedMade C)) (m4 : Met P w K mg base 1 C "check_rings" (spCheckRings C)) :
    FnOk P w K mg base CX0 4 f fd pInit (spInit K C) := by
  refine M.F.ok (k := 3) scInit (fun vs H Q E h => ?_) (fun cdv A outer s H vs Q E hr h => ?_)
  · obtain ⟨x, dx, tb, fn, rf, md, kv, fs, rfl, _⟩ := h
    rfl
  · obtain ⟨x, dx, tb, fn, rf, md, kv, fs, rfl, hx, htb, X, nd, good, few, hkv, er, em, q⟩ := h
    obtain ⟨a1, g1⟩ := V0.cols
    obtain ⟨a2, g2⟩ := V0.shape
    obtain ⟨a3, g3⟩ := V0.refs
    obtain ⟨a4, g4⟩ := V0.made
    have core : ∃ t, PSs (cxOf CX0 P w K mg base nInit "Schema.__init__" (defScope sInit) f cdv A outer s H E).nox (defBody sInit) t ∧
        t { nx := fun _ H' => Q .non H', rt := Q } (start nInit [.ref x, .ref tb, .ref fn, kv, .ref rf, .ref md]) H := by
      refine ⟨_, pss_cons (ps_if (pt_not (pt_val (pe_cl c1 hr (by decide) (by rfl) (pa_cons (pe_glob (v := .ref a1) rfl g1 rfl) (pa_cons (pv 1) pa_nil))))) (pss_one ps_never) pss_nil)
        (pss_cons (ps_if (pt_not (pt_val (pe_cl c1 hr (by decide) (by rfl) (pa_cons (pe_glob (v := .ref a2) rfl g2 rfl) (pa_cons (pv 2) pa_nil))))) (pss_one ps_never) pss_nil)
        (C8.pss_cut (ps_if (PW.pt (pw_and (pt_cmpR op_notN (pv 3) pe_non (nomark _)) (pw_and1 (pt_not (pt_val (pe_cl c2 hr (by decide) (by rfl) (pa_cons (pv 3) pa_nil))))))) (pss_one ps_never) pss_nil)
        (pss_cons (ps_if (pt_not (pt_val (pe_cl c3 hr (by decide) (by rfl) (pa_cons (pe_glob (v := .ref a3) rfl g3 rfl) (pa_cons (pv 4) pa_nil))))) (pss_one ps_never) pss_nil)
        (pss_cons (ps_if (pt_not (pt_val (pe_cl c3 hr (by decide) (by rfl) (pa_cons (pe_glob (v := .ref a4) rfl g4 rfl) (pa_cons (pv 5) pa_nil))))) (pss_one ps_never) pss_nil)
        (pss_cons (ps_fld (pv 0) (pe_lock (pe_dc (tv := tCB (rListOf K) (tCons (tVar 7) tNil)) (own := [("table", 6), ("columns", 7)]) (g := gTup K 2 (gCons (gName 6) (gCons (gName 7) gNil))) (tt := tYes) rfl scInit.nd (pi_items (pv 1)) (blkOk_by (N := nInit) (sc := defScope sInit) (by decide +kernel))
            (fun _ _ _ _ _ => pg_tup rfl (pgs_cons (pg_name (i := 6) scInit.nd rfl (Or.inl rfl)) (pgs_cons (pg_name (i := 7) scInit.nd rfl (Or.inl rfl)) pgs_nil))) (fun _ _ _ _ _ => pts_nil)
            (fun _ _ _ _ _ => pv 6) (fun _ _ _ _ _ => pe_callTy (T := "list") cr_listOf (by rfl) B.list (by decide +kernel) (pa_cons (pv 7) pa_nil)))) rfl)
        (pss_cons (ps_fld (pv 0) (pe_callTy call_dictD (by rfl) B.dict (by decide +kernel) (pa_cons (pv 2) pa_nil)) rfl)
        (C8.pss_cut (ps_fld (pv 0) (pe_callTy call_dictD (by rfl) B.dict (by decide +kernel) (pa_cons (pe_orT (pv 3) (pe_one pe_dnewK)) pa_nil)) rfl)
        (pss_cons (ps_expr (pe_mc0 m1 T.cl hr (by decide) (pv 0)))
        (pss_cons (ps_fld (pv 0) (pe_mc m2 T.cl hr (by decide) (pv 0) (pa_cons (pe_callTy call_list_of (by rfl) B.list (by decide +kernel) (pa_cons (pv 4) pa_nil)) pa_nil)) rfl)
        (pss_cons (ps_fld (pv 0) (pe_mc m3 T.cl hr (by decide) (pv 0) (pa_cons (pe_callTy call_list_of (by rfl) B.list (by decide +kernel) (pa_cons (pv 5) pa_nil)) pa_nil)) rfl)
        (pss_one (ps_expr (pe_mc0 m4 T.cl hr (by decide) (pv 0)))))))))))))), ?_⟩
      -- the five looks
      refine ⟨_, rfl, a1, tb, [], rfl, ⟨htb, fun f hf => (nomatch hf)⟩, (fun f hf => nomatch hf), Nat.zero_le _, .inl rfl, fun H1 s1 => ⟨true, rfl, iteF ?_⟩⟩
      refine ⟨_, rfl, a2, fn, fs, rfl, X.same s1, good, few, .inr g2, fun H2 s12 => ⟨true, rfl, iteF ?_⟩⟩
      have s2 := s1.trans s12
      refine ⟨fun σ' H' => σ' = start nInit [.ref x, .ref tb, .ref fn, kv, .ref rf, .ref md] ∧ Same H H', ?_, ?_⟩
      · rcases hkv with e | ⟨d, e, hd⟩
        · subst e
          exact ⟨_, rfl, rfl, _, rfl, iteF (iteF ⟨rfl, s2⟩)⟩
        · subst e
          refine ⟨_, rfl, rfl, _, rfl, iteT ?_⟩
          exact ⟨_, rfl, d, rfl, s2 _ _ hd, fun H3 s23 => ⟨true, rfl, iteF ⟨rfl, s2.trans s23⟩⟩⟩
      · rintro σ' H3 ⟨rfl, s3⟩
        have toL : ∀ {a : Addr} {H' : Hp}, Emp K H' a → (H' a = some (.lst []) ∨ ∃ o, K.lookup a = some o ∧ o.cls = .type "tuple" ∧ SqT K H' a []) := fun {a H'} e => e.imp id fun ⟨o, h1, h2, h3⟩ => ⟨o, h1, h2, h3 H'⟩
        refine ⟨_, rfl, a3, rf, rfl, toL (er.same s3), fun H4 s34 => ⟨true, rfl, iteF ?_⟩⟩
        have s4 := s3.trans s34
        refine ⟨_, rfl, a4, md, rfl, toL (em.same s4), fun H5 s45 => ⟨true, rfl, iteF ?_⟩⟩
        have s5 := s4.trans s45
        -- self.its_columns
        refine ⟨tb, _, s5 _ _ htb, trivial, fun od => ⟨_, rfl, tb, od, [], rfl, upd_same, fun dc nc => ?_⟩⟩
        refine dc_it (walk_items (kvs := [])) (fun _ H' => Same (upd H5 tb (.frz od (.dK []))) H' ∧ H' dc = some (.dK [])) ⟨sm_new (.refl _) nc, upd_same⟩ (fun _ _ _ h => h.1 _ _ upd_same) (fun i _ _ _ hi _ _ => absurd hi (Nat.not_lt_zero _)) ?_
        rintro H6' ⟨s56, edc'⟩
        refine ⟨s56 _ _ upd_same, ?_⟩
        have neD : dc ≠ tb := fun z => by
          rw [z, upd_same] at nc
          cases nc
        have edc : (upd H6' tb (.dK [])) dc = some (.dK []) := (upd_ne neD).trans edc'
        have s6 : Same H (upd H6' tb (.dK [])) := s5.trans (lock_same (s5 _ _ htb) s56)
        revert edc s6
        generalize upd H6' tb (.dK []) = H6
        intro edc s6
        refine ⟨_, rfl, x, C, dx, [], rfl, s6 _ _ hx, T.cl, T.nC, by show 0 < 1000; decide, ?_⟩
        have k6 : Keep x H (upd H6 x (.ins C dx [("its_columns", .ref dc)])) := (Keep.of s6).put
        have hx6 : (upd H6 x (.ins C dx [("its_columns", V.ref dc)])) x = some (.ins C dx [("its_columns", .ref dc)]) := upd_same
        have nxc : dc ≠ x := ne_of edc (s6 _ _ hx) (by intro z; cases z)
        have edc6 : (upd H6 x (.ins C dx [("its_columns", V.ref dc)])) dc = some (.dK []) := (upd_ne nxc).trans edc
        show tSeq _ _ _ _ (upd H6 x (.ins C dx [("its_columns", V.ref dc)]))
        revert k6 hx6 edc6
        generalize upd H6 x (.ins C dx [("its_columns", V.ref dc)]) = H7
        intro k7 hx7 edc7
        -- self.its_shapes
        refine ⟨_, rfl, fn, fs.map kvF, rfl, .inl (X.keep k7 hx).dk, fun ds nds => ?_⟩
        have k8 : Keep x H (upd H7 ds (.dK (fs.map kvF))) := k7.new nds
        refine ⟨_, rfl, x, C, dx, _, rfl, keep1 hx7 nds, T.cl, T.nS, by show 1 < 1000; decide, ?_⟩
        show tSeq _ _ _ _ (upd (upd H7 ds (.dK (fs.map kvF))) x (.ins C dx [("its_columns", V.ref dc), ("its_shapes", V.ref ds)]))
        have nsx : ds ≠ x := fun z => by
          rw [z, hx7] at nds
          cases nds
        have k9 := k8.put (o := .ins C dx [("its_columns", V.ref dc), ("its_shapes", V.ref ds)])
        have hx9 : (upd (upd H7 ds (.dK (fs.map kvF))) x (.ins C dx [("its_columns", V.ref dc), ("its_shapes", V.ref ds)])) x = _ := upd_same
        have edc9 : (upd (upd H7 ds (.dK (fs.map kvF))) x (.ins C dx [("its_columns", V.ref dc), ("its_shapes", V.ref ds)])) dc = some (.dK []) := (upd_ne nxc).trans (keep1 edc7 nds)
        have eds9 : (upd (upd H7 ds (.dK (fs.map kvF))) x (.ins C dx [("its_columns", V.ref dc), ("its_shapes", V.ref ds)])) ds = some (.dK (fs.map kvF)) := (upd_ne nsx).trans upd_same
        revert k9 hx9 edc9 eds9
        generalize upd (upd H7 ds (.dK (fs.map kvF))) x (.ins C dx [("its_columns", V.ref dc), ("its_shapes", V.ref ds)]) = H9
        intro k9 hx9 edc9 eds9
        -- self.its_keys
        have mid : ∀ H10 dk, Same H9 H10 → H10 dk = none → (start nInit [.ref x, .ref tb, .ref fn, kv, .ref rf, .ref md] = start nInit [.ref x, .ref tb, .ref fn, kv, .ref rf, .ref md]) ∧ ∃ dk', Keep x H (upd (upd H10 dk (.dK [])) x (.ins C dx [("its_columns", V.ref dc), ("its_shapes", V.ref ds), ("its_keys", V.ref dk)])) ∧
            (upd (upd H10 dk (.dK [])) x (.ins C dx [("its_columns", V.ref dc), ("its_shapes", V.ref ds), ("its_keys", V.ref dk)])) x = some (.ins C dx [("its_columns", V.ref dc), ("its_shapes", V.ref ds), ("its_keys", V.ref dk')]) ∧
            (upd (upd H10 dk (.dK [])) x (.ins C dx [("its_columns", V.ref dc), ("its_shapes", V.ref ds), ("its_keys", V.ref dk)])) dc = some (.dK []) ∧
            (upd (upd H10 dk (.dK [])) x (.ins C dx [("its_columns", V.ref dc), ("its_shapes", V.ref ds), ("its_keys", V.ref dk)])) ds = some (.dK (fs.map kvF)) ∧
            (upd (upd H10 dk (.dK [])) x (.ins C dx [("its_columns", V.ref dc), ("its_shapes", V.ref ds), ("its_keys", V.ref dk)])) dk' = some (.dK []) := fun H10 dk s910 ndk => by
          have s10 := sm_new (o := .dK []) s910 ndk
          have nkx : dk ≠ x := fun z => by
            rw [z, s910 _ _ hx9] at ndk
            cases ndk
          exact ⟨rfl, dk, (k9.same s10).put, upd_same, (upd_ne nxc).trans (s10 _ _ edc9), (upd_ne nsx).trans (s10 _ _ eds9), (upd_ne nkx).trans upd_same⟩
        refine ⟨fun σ' H' => σ' = start nInit [.ref x, .ref tb, .ref fn, kv, .ref rf, .ref md] ∧ ∃ dk, Keep x H H' ∧ H' x = some (.ins C dx [("its_columns", V.ref dc), ("its_shapes", V.ref ds), ("its_keys", V.ref dk)]) ∧
          H' dc = some (.dK []) ∧ H' ds = some (.dK (fs.map kvF)) ∧ H' dk = some (.dK []), ?_, ?_⟩
        · rcases hkv with e | ⟨d, e, hd⟩
          · subst e
            refine ⟨_, rfl, false, rfl, ?_⟩
            rw [if_neg Bool.false_ne_true]
            intro d nd'
            have s10 := sm_new (o := .dK []) (.refl H9) nd'
            exact ⟨d, [], rfl, .inl upd_same, fun p np => ⟨_, rfl, x, C, dx, _, rfl, keep1 (s10 _ _ hx9) np, T.cl, T.nK, by show 2 < 1000; decide, mid _ _ s10 np⟩⟩
          · subst e
            have hd9 : H9 d = some (.dK []) := k9 _ _ (ne_of hd hx (by intro z; cases z)) hd
            refine ⟨_, rfl, false, .inr (.inr ⟨[], hd9, rfl⟩), ?_⟩
            rw [if_neg Bool.false_ne_true]
            intro d2 nd'
            have s10 := sm_new (o := .dK []) (.refl H9) nd'
            exact ⟨d2, [], rfl, .inl upd_same, fun p np => ⟨_, rfl, x, C, dx, _, rfl, keep1 (s10 _ _ hx9) np, T.cl, T.nK, by show 2 < 1000; decide, mid _ _ s10 np⟩⟩
        rintro σ' H11 ⟨rfl, dk, k11, hx11, edc11, eds11, edk11⟩
        have nkx : dk ≠ x := ne_of edk11 hx11 (by intro z; cases z)
        -- self.check_keys()
        refine ⟨_, rfl, x, dx, _, rfl, hx11, rfl, x, dx, dk, _, rfl, hx11, rfl, edk11, fun H12 s112 => ?_⟩
        have k12 := k11.same s112
        -- self.its_references
        refine ⟨_, rfl, x, dx, _, rfl, s112 _ _ hx11, rfl, _, rfl, rf, [], rfl, (er.keep k12 hx).sq, fun l1 n1 => ?_⟩
        have s13 := sm_new (o := .lst []) s112 n1
        refine ⟨x, l1, rfl, upd_same, fun H14 lr s134 nlr elr => ?_⟩
        have s14 := s13.trans s134
        refine ⟨_, rfl, x, C, dx, _, rfl, s14 _ _ hx11, T.cl, T.nR, by show 3 < 1000; decide, ?_⟩
        show tSeq _ _ _ _ (upd H14 x (.ins C dx [("its_columns", V.ref dc), ("its_shapes", V.ref ds), ("its_keys", V.ref dk), ("its_references", V.ref lr)]))
        have nrx : lr ≠ x := ne_of elr (s14 _ _ hx11) (by intro z; cases z)
        have k15 := (k11.same s14).put (o := .ins C dx [("its_columns", V.ref dc), ("its_shapes", V.ref ds), ("its_keys", V.ref dk), ("its_references", V.ref lr)])
        have hx15 : (upd H14 x (.ins C dx [("its_columns", V.ref dc), ("its_shapes", V.ref ds), ("its_keys", V.ref dk), ("its_references", V.ref lr)])) x = _ := upd_same
        have edc15 : (upd H14 x (.ins C dx [("its_columns", V.ref dc), ("its_shapes", V.ref ds), ("its_keys", V.ref dk), ("its_references", V.ref lr)])) dc = some (.dK []) := (upd_ne nxc).trans (s14 _ _ edc11)
        have eds15 : (upd H14 x (.ins C dx [("its_columns", V.ref dc), ("its_shapes", V.ref ds), ("its_keys", V.ref dk), ("its_references", V.ref lr)])) ds = some (.dK (fs.map kvF)) := (upd_ne nsx).trans (s14 _ _ eds11)
        have edk15 : (upd H14 x (.ins C dx [("its_columns", V.ref dc), ("its_shapes", V.ref ds), ("its_keys", V.ref dk), ("its_references", V.ref lr)])) dk = some (.dK []) := (upd_ne nkx).trans (s14 _ _ edk11)
        have elr15 : (upd H14 x (.ins C dx [("its_columns", V.ref dc), ("its_shapes", V.ref ds), ("its_keys", V.ref dk), ("its_references", V.ref lr)])) lr = some (.lst []) := (upd_ne nrx).trans elr
        revert k15 hx15 edc15 eds15 edk15 elr15
        generalize upd H14 x (.ins C dx [("its_columns", V.ref dc), ("its_shapes", V.ref ds), ("its_keys", V.ref dk), ("its_references", V.ref lr)]) = H15
        intro k15 hx15 edc15 eds15 edk15 elr15
        -- self.its_made
        refine ⟨_, rfl, x, dx, _, rfl, hx15, rfl, _, rfl, md, [], rfl, (em.keep k15 hx).sq, fun l2 n2 => ?_⟩
        have s16 := sm_new (o := .lst []) (.refl H15) n2
        refine ⟨x, l2, dx, lr, _, rfl, upd_same, s16 _ _ hx15, rfl, s16 _ _ elr15, fun H17 lm s167 nlm elm => ?_⟩
        have s17 := s16.trans s167
        refine ⟨_, rfl, x, C, dx, _, rfl, s17 _ _ hx15, T.cl, T.nM, by show 4 < 1000; decide, ?_⟩
        show Ends.nx _ _ (upd H17 x (.ins C dx (schF dc ds dk lr lm)))
        have nmx : lm ≠ x := ne_of elm (s17 _ _ hx15) (by intro z; cases z)
        have k18 := (k15.same s17).put (o := .ins C dx (schF dc ds dk lr lm))
        have hx18 : (upd H17 x (.ins C dx (schF dc ds dk lr lm))) x = _ := upd_same
        have elm18 : (upd H17 x (.ins C dx (schF dc ds dk lr lm))) lm = some (.lst []) := (upd_ne nmx).trans elm
        have S : Sch C (upd H17 x (.ins C dx (schF dc ds dk lr lm))) x fs :=
          ⟨⟨dx, dc, ds, dk, lr, lm, upd_same, (upd_ne nxc).trans (s17 _ _ edc15), ⟨(upd_ne nsx).trans (s17 _ _ eds15), (X.keep k18 hx).at_⟩, (upd_ne nkx).trans (s17 _ _ edk15), (upd_ne nrx).trans (s17 _ _ elr15), elm18⟩, nd, good, few⟩
        exact ⟨_, rfl, x, dx, _, rfl, hx18, rfl, x, dx, lm, _, rfl, hx18, rfl, elm18, q _ k18 S⟩
    obtain ⟨t, h1, h2⟩ := core
    exact ⟨t, h1.nox, h2⟩
end
end K17
set_option Elab.async false
set_option linter.all false
set_option maxRecDepth 100000
set_option maxHeartbeats 4000000
namespace K17
open PySem PySem.Spec PyProof.Rows L2 PpSet
section
variable {base : Heap} {mg : Str → Option Value} {K : PySem.W.Frag} {w : World} {P : Program}
theorem mk_binds {C f e1 e2 : Addr} {fd : FuncData} (M : MakAt K mg C f fd e1 e2) : ∃ ds, Vals [.non, .ref e1, .ref e2] ds ∧ Binds K fd pInit ds :=
  M.F.binds0 (ps := pInit) 3 (by simp) rfl fun D doc pm an cdv ct us ks h1 h2 => match us, ks, h1, h2 with
    | [_, _, _], [_, _, _], _, _ => ⟨_, _, _, _, _, _, rfl, rfl, _, _, _, _, _, _, rfl, rfl, _, _, _, _, _, _, rfl, rfl, rfl⟩
theorem mk_kbinds {C f e1 e2 : Addr} {fd : FuncData} (M : MakAt K mg C f fd e1 e2) : ∃ mv : List Value, KBn K fd pInit 3 ["keys", "references", "made"] (fun us ws => us ++ ws) (fun vs zs => vs ++ zs) :=
  M.F.kbinds0 (ps := pInit) 3 ["keys", "references", "made"] [] (fun us _ ws => us ++ ws) (by simp) (fun q h => nomatch h) (fun a _ b => a.append b) fun D doc pm an cdv ct us mv ws h1 h2 h3 => match us, ws, h1, h3 with
    | [_, _, _], [_, _, _], _, _ => rfl
/-- other kinds, by name -/
abbrev kvC (c : Str × Str) : Key × V := (Sum.inr c.1, V.str c.2)
theorem val_look {z : Str} : ∀ cs : List (Str × Str), valV (cs.map kvC) (Sum.inr z) = (cs.lookup z).map V.str
  | [] => rfl
  | c :: cs => by
    by_cases e : c.1 = z
    · subst e
      rw [List.map_cons, valV_pos rfl, List.lookup_cons, beq_self_eq_true]
      rfl
    · have e2 : (z == c.1) = false := beq_eq_false_iff_ne.mpr fun h => e h.symm
      rw [List.map_cons, valV_neg fun h => e (Sum.inr.inj h), val_look cs, List.lookup_cons, e2]
def newKd (cs : List (Str × Str)) (f : Fn) : Str := (cs.lookup f.nm).getD f.kd
theorem newKd_mem {cs : List (Str × Str)} {f : Fn} (h : ∀ c ∈ cs, c.2 ∈ KN) (hf : f.kd ∈ KN) : newKd cs f ∈ KN := by
  unfold newKd
  cases e : cs.lookup f.nm with
  | none => exact hf
  | some k =>
    have : (f.nm, k) ∈ cs := List.lookup_eq_some_iff.mp e |> fun ⟨l1, l2, e, _⟩ => by rw [e]; simp
    exact h _ this
/-- the same functions with other kinds, standing elsewhere -/
structure Rekind (cs : List (Str × Str)) (fs fs' : List Fn) : Prop where
  len : fs'.length = fs.length
  at_ : ∀ (i : Nat) (f g : Fn), fs[i]? = some f → fs'[i]? = some g → g.nm = f.nm ∧ g.many = f.many ∧ g.kd = newKd cs f
def spWithKinds (C : Addr) : Sp := fun vs H Q _ => ∃ (x d : Addr) (fs : List Fn) (cs : List (Str × Str)), vs = [.ref x, .ref d] ∧ Sch C H x fs ∧ H d = some (.dK (cs.map kvC)) ∧ cs.length < 64 ∧ (∀ c ∈ cs, c.1 ∈ fs.map (·.nm) ∧ c.2 ∈ KN) ∧
  ∀ H' y fs', Same H H' → Sch C H' y fs' → Rekind cs fs fs' → Q (.ref y) H'
theorem map_getEq {α : Type} {f : α → V} {l : List α} {i : Nat} {x : V} (h : (l.map f)[i]? = some x) : ∃ a, l[i]? = some a ∧ x = f a := by
  rw [List.getElem?_map] at h
  cases e : l[i]? with
  | none =>
    rw [e] at h
    cases h
  | some a =>
    rw [e] at h
    exact ⟨a, rfl, (Option.some.inj h).symm⟩
theorem met_withKinds {C f e1 e2 : Addr} {fd : FuncData} (B : Bi mg) (T : Cl K mg C) (M : MakAt K mg C f fd e1 e2) (FI : FnOk P w K mg base CX0 4 f fd pInit (spInit K C))
    (D : MetAt K C "with_kinds" "Schema.with_kinds" sWithKinds pWithKinds) : Met P w K mg base 6 C "with_kinds" (spWithKinds C) := by
  obtain ⟨mv, kb⟩ := mk_kbinds M
  refine D.met (k := 5) scWithKinds (fun vs H Q E h => ?_) (fun cdv ff A outer s H vs Q E hr h => ?_)
  · obtain ⟨x, d, fs, cs, rfl, _⟩ := h
    rfl
  · obtain ⟨x, d, fs, cs, rfl, S, hd, few, hcs, q⟩ := h
    have hu := hu_of hr
    refine ⟨_, pss_cons (ps_for PassesOwn.never rfl (pi_list (pe_callB (call_sortedD rfl) (by rfl) B.sorted (by decide +kernel) (pa_cons (pv 1) pa_nil))) (pg_name (i := 2) scWithKinds.nd rfl (.inl rfl))
        (pss_one (ps_if (pt_cmp (pc_dnotin hu (pv 2) (pe_fld (pv 0) rfl))) (pss_one ps_never) pss_nil)))
      (pss_cons (ps_for PassesOwn.never rfl (pi_list (pe_callB cr_sortedS (by rfl) B.sorted (by decide +kernel) (pa_cons
          (pe_lc (own := [("row", 6)]) (g := gName 6) (tt := tYes) (te := tOp (rIxT K) (tVar 6) (tC (.int 2))) rfl scWithKinds.nd (pi_list (pe_fld (pv 0) rfl)) (blkOk_by (N := nWithKinds) (sc := defScope sWithKinds) (by decide +kernel))
            (fun _ _ _ _ _ => pg_name (i := 6) scWithKinds.nd rfl (Or.inl rfl)) (fun _ _ _ _ _ => pts_nil)
            (fun _ _ _ _ _ => pe_ix ix_tup (pv 6) pe_int (fun _ _ => rfl))) pa_nil))) (pg_name (i := 2) scWithKinds.nd rfl (.inl rfl)) pss_never)
      (pss_cons (ps_lock (ps_setDc (i := 3) (own := [("name", 7), ("many", 8), ("kind", 9)]) (g := gTup K 2 (gCons (gName 7) (gCons (gTup K 2 (gCons (gName 8) (gCons (gName 9) gNil))) gNil))) (tt := tYes)
          (tk := tVar 7) (tv := tTup (tCons (tVar 8) (tCons (tDGet2 (tVar 1) (tVar 7) (tVar 9)) tNil))) rfl scWithKinds.nd rfl rfl (sw_dc rfl rfl rfl (by decide +kernel))
          (pi_items (pe_fld (pv 0) rfl)) (blkOk_by (N := nWithKinds) (sc := defScope sWithKinds) (by decide +kernel))
          (fun _ _ _ _ _ => pg_tup rfl (pgs_cons (pg_name (i := 7) scWithKinds.nd rfl (Or.inl rfl)) (pgs_cons (pg_tup rfl (pgs_cons (pg_name (i := 8) scWithKinds.nd rfl (Or.inl rfl)) (pgs_cons (pg_name (i := 9) scWithKinds.nd rfl (Or.inl rfl)) pgs_nil))) pgs_nil)))
          (fun _ _ _ _ _ => pts_nil) (fun _ _ _ _ _ => pv 7)
          (fun _ _ _ _ _ => pe_tup (pa_cons (pv 8) (pa_cons (pe_dget2 hu (pv 1) (pv 7) (pv 9) ⟨rfl, rfl, rfl, rfl⟩) pa_nil)))))
      (pss_cons (ps_par (i := 4) (j := 5) (by rfl) scWithKinds.nd rfl rfl (by decide) rfl rfl (pa_cons (pe_fld (pv 0) rfl) (pa_cons (pe_fld (pv 0) rfl) pa_nil)) (by rfl))
      (pss_one (ps_ret (pe_makeK (n := 2) M.M FI hr (by rfl) M.mgC kb pass0 (pa_cons (pe_fld (pv 0) rfl) (pa_cons (pv 3) pa_nil))
        (pk_cons (pe_fld (pv 0) rfl) (pk_cons (pv 4) (pk_cons (pv 5) pk_nil))))))))), ?_⟩
    -- the keys of changes
    refine ⟨_, rfl, d, _, cs.map (·.1), rfl, .inl hd, by rw [List.map_map, List.map_map]; rfl, by rw [List.length_map]; exact few, fun ys p pm _ np => ?_⟩
    have s1 := sm_new (o := .lst (ys.map V.str)) (.refl H) np
    refine ⟨p, rfl, ⟨_, SqL.of upd_same⟩, for_it (walk_list (xs := ys.map V.str)) (fun _ σ H' => ∃ x2, σ = [some (.ref x), some (.ref d), x2, none, none, none, none, none, none, none] ∧ Same H H' ∧ H' p = some (.lst (ys.map V.str)))
      ⟨none, rfl, s1, upd_same⟩ (fun _ _ _ _ ⟨_, _, _, h⟩ => SqL.of h) ?_ ?_⟩
    · rintro i y σ H1 H2 hi ⟨x2, rfl, s2, hp⟩ ⟨rfl, hy⟩
      obtain ⟨z, hz, rfl⟩ := map_getEq hy
      have mz : z ∈ fs.map (·.nm) := by
        obtain ⟨c, hc, e⟩ := List.mem_map.mp (pm.mem_iff.mp (List.mem_of_getElem? hz))
        rw [← e]
        exact (hcs c hc).1
      obtain ⟨f, hf, rfl⟩ := List.mem_map.mp mz
      obtain ⟨⟨dx, dc, ds, dk, lr, lm, h1, h2, h3, h4, h5, h6⟩, nd, _, _⟩ := S.same s2
      have v := DGet.k (k := Sum.inr f.nm) h3.dk
      rw [fn_val nd hf] at v
      exact ⟨_, rfl, _, rfl, x, C, dx, _, _, rfl, h1, T.cl, T.nS, lk_s, ds, _, rfl, v, _, rfl, iteF ⟨_, rfl, s2, hp⟩⟩
    rintro σ H1 ⟨x2, rfl, s2, hp⟩
    obtain ⟨⟨dx, dc, ds, dk, lr, lm, h1, h2, h3, h4, h5, h6⟩, nd, good, few6⟩ := S.same s2
    -- no made columns
    refine ⟨_, rfl, x, C, dx, _, _, rfl, h1, T.cl, T.nM, lk_m, lm, rfl, ⟨_, SqL.of h6⟩, fun p3 np3 => ?_⟩
    have s3 := sm_new (o := .lst []) (.refl H1) np3
    refine lc_it (walk_list (xs := [])) (fun _ H' => Same H1 H' ∧ H' p3 = some (.lst [])) ⟨s3, upd_same⟩ (fun _ _ _ h => SqL.of (h.1 _ _ h6)) (fun i _ _ _ hi _ _ => absurd hi (Nat.not_lt_zero _)) ?_
    rintro H3 ⟨s13, hp3⟩
    refine ⟨p3, [], rfl, SqL.of hp3, by decide, fun ys4 p4 pm4 _ np4 => ?_⟩
    have e4 : ys4 = [] := List.Perm.eq_nil pm4
    subst e4
    have s4 := sm_new (o := .lst []) s13 np4
    refine ⟨p4, rfl, ⟨_, SqL.of upd_same⟩, for_it (walk_list (xs := [])) (fun _ σ H' => σ = [some (.ref x), some (.ref d), x2, none, none, none, none, none, none, none] ∧ Same H1 H' ∧ H' p4 = some (.lst [])) ⟨rfl, s4, upd_same⟩
      (fun _ _ _ _ h => SqL.of h.2.2) (fun i _ _ _ _ hi _ _ => absurd hi (Nat.not_lt_zero _)) ?_⟩
    rintro σ H5 ⟨rfl, s15, _⟩
    have s5 := s2.trans s15
    have X5 := h3.same s15
    -- shapes = {..}
    refine ⟨ds, _, X5.dk, trivial, fun od => ?_⟩
    have hx5 : (upd H5 ds (.frz od (.dK (fs.map kvF)))) x = _ := (upd_ne (ne_of (s15 _ _ h1) X5.dk (by intro z; cases z))).trans (s15 _ _ h1)
    refine ⟨_, rfl, x, C, dx, _, _, rfl, hx5, T.cl, T.nS, lk_s, ds, od, _, rfl, upd_same, fun E5 nE => ?_⟩
    refine dc_it (walk_items (kvs := fs.map kvF)) (fun i H' => Same (upd H5 ds (.frz od (.dK (fs.map kvF)))) H' ∧ ∃ gs : List Fn, gs.length = i ∧ i ≤ fs.length ∧ H' E5 = some (.dK (gs.map kvF)) ∧
        ∀ (j : Nat) (f g : Fn), fs[j]? = some f → gs[j]? = some g → g.nm = f.nm ∧ g.many = f.many ∧ g.kd = newKd cs f ∧ H' g.at_ = some (.tup [.int (g.many : Nat), .str g.kd]))
      ⟨sm_new (.refl _) nE, [], rfl, Nat.zero_le _, upd_same, fun j f g _ h => by simp at h⟩ (fun _ _ _ h => h.1 _ _ upd_same) ?_ ?_
    · rintro i y H6 H7 hi ⟨s6, gs, gl, il, hE, hg⟩ ⟨Tp, y1, y2, rfl, nT, rfl, g1, g2⟩
      rw [List.length_map] at hi
      obtain ⟨f, hf⟩ : ∃ f, fs[i]? = some f := ⟨_, List.getElem?_eq_getElem hi⟩
      have mf : f ∈ fs := List.mem_of_getElem? hf
      have g1 : ((fs.map kvF)[i]?).map (fun kv => kV kv.1) = some y1 := g1
      have g2 : ((fs.map kvF)[i]?).map Prod.snd = some y2 := g2
      rw [List.getElem?_map, hf] at g1 g2
      cases g1
      cases g2
      have s7 := sm_new (o := .tup [kV (kvF f).1, (kvF f).2]) s6 nT
      have eT : H5 f.at_ = some (.tup [.int (f.many : Nat), .str f.kd]) := X5.at_ f mf
      have eF : (upd H5 ds (.frz od (.dK (fs.map kvF)))) f.at_ = _ := (upd_ne (ne_of eT X5.dk (by intro z; cases z))).trans eT
      refine ⟨Tp, _, rfl, SqT.of upd_same, rfl, _, _, rfl, _, _, rfl, ⟨f.at_, _, rfl, SqT.of (s7 _ _ eF), rfl, _, _, rfl, _, _, rfl, rfl, rfl, rfl, ?_⟩⟩
      have ned : d ≠ ds := fun z => by
        have e1 := s5 _ _ hd
        rw [z, X5.dk] at e1
        injection e1 with e1
        injection e1 with e1
        cases fs with
        | nil => cases mf
        | cons a l =>
          cases cs with
          | nil => cases e1
          | cons b m =>
            rw [List.map_cons, List.map_cons] at e1
            injection e1 with e1
            injection e1 with _ e1
            cases e1
      have hd7 : (upd H6 Tp (.tup [kV (kvF f).1, (kvF f).2])) d = some (.dK (cs.map kvC)) := s7 _ _ ((upd_ne ned).trans (s5 _ _ hd))
      refine ⟨_, rfl, _, rfl, _, rfl, d, rfl, .inl ⟨_, .inl hd7⟩, _, rfl, _, rfl, (valV (cs.map kvC) (Sum.inr f.nm)), DGet.k (k := Sum.inr f.nm) hd7, ?_⟩
      rw [val_look]
      have ek : ((cs.lookup f.nm).map V.str).getD (V.str f.kd) = V.str (newKd cs f) := by
        unfold newKd
        cases cs.lookup f.nm <;> rfl
      rw [ek]
      refine ⟨by show 2 ≤ sizeLine; decide, fun tp ntp => ?_⟩
      have s8 := sm_new (o := .tup [.int (f.many : Nat), .str (newKd cs f)]) s7 ntp
      have hE8 : (upd (upd H6 Tp (.tup [kV (kvF f).1, (kvF f).2])) tp (.tup [.int (f.many : Nat), .str (newKd cs f)])) E5 = some (.dK (gs.map kvF)) := keep1 (keep1 hE nT) ntp
      refine ⟨gs.map kvF, Sum.inr f.nm, rfl, hE8, by rw [List.length_map]; exact small1000 (by omega), sm_put s8 nE, gs ++ [⟨f.nm, f.many, newKd cs f, tp⟩], by rw [List.length_append, gl]; rfl, hi, ?_, ?_⟩
      · rw [upd_same, List.map_append]
        have vn : valV (gs.map kvF) (Sum.inr f.nm) = none := val_out (key := Fn.nm) (val := fun f => V.ref f.at_) fun g mg' => by
          obtain ⟨j, hj⟩ := List.getElem?_of_mem mg'
          have jl : j < i := by
            rw [← gl]
            exact (List.getElem?_eq_some_iff.mp hj).1
          obtain ⟨f', hf'⟩ : ∃ f', fs[j]? = some f' := ⟨_, List.getElem?_eq_getElem (by omega)⟩
          rw [(hg j f' g hf' hj).1]
          intro e
          have e1 : (fs.map (·.nm))[j]? = some f.nm := by
            rw [List.getElem?_map, hf', ← e]
            rfl
          have e2 : (fs.map (·.nm))[i]? = some f.nm := by
            rw [List.getElem?_map, hf]
            rfl
          have := (List.getElem?_inj (by rw [List.length_map]; omega) nd).mp (e1.trans e2.symm)
          omega
        rw [putK_new _ vn]
        rfl
      · intro j f' g hf' hg'
        have keepg : ∀ {a : Addr} {xs : List V}, H6 a = some (.tup xs) → (upd (upd (upd H6 Tp (.tup [kV (kvF f).1, (kvF f).2])) tp (.tup [.int (f.many : Nat), .str (newKd cs f)])) E5 (.dK (putK (gs.map kvF) (Sum.inr f.nm) (.ref tp)))) a = some (.tup xs) := fun {a xs} e =>
          (upd_ne (ne_of e hE (by intro z; cases z))).trans (keep1 (keep1 e nT) ntp)
        by_cases jl : j < gs.length
        · rw [List.getElem?_append_left jl] at hg'
          obtain ⟨a1, a2, a3, a4⟩ := hg j f' g hf' hg'
          exact ⟨a1, a2, a3, keepg a4⟩
        · have je : j = i := by
            have := (List.getElem?_eq_some_iff.mp hg').1
            rw [List.length_append] at this
            have : j < gs.length + 1 := this
            omega
          subst je
          rw [List.getElem?_append_right (by omega), gl, Nat.sub_self] at hg'
          cases hg'
          rw [hf] at hf'
          cases hf'
          refine ⟨rfl, rfl, rfl, ?_⟩
          have ntE : tp ≠ E5 := fun z => by
            rw [z, keep1 hE nT] at ntp
            cases ntp
          exact (upd_ne ntE).trans upd_same
    · rintro H6 ⟨s6, gs, gl, _, hE, hg⟩
      rw [List.length_map] at gl
      refine ⟨s6 _ _ upd_same, ?_⟩
      have s7 := lock_same X5.dk s6
      have neE : E5 ≠ ds := fun z => by
        rw [z, upd_same] at nE
        cases nE
      have X7 : Fns (upd H6 ds (.dK (fs.map kvF))) E5 gs := ⟨(upd_ne neE).trans hE, fun g mg' => by
        obtain ⟨j, hj⟩ := List.getElem?_of_mem mg'
        have jl := (List.getElem?_eq_some_iff.mp hj).1
        obtain ⟨f', hf'⟩ : ∃ f', fs[j]? = some f' := ⟨_, List.getElem?_eq_getElem (by omega)⟩
        have e := (hg j f' g hf' hj).2.2.2
        exact (upd_ne (ne_of e (s6 _ _ upd_same) (by intro z; cases z))).trans e⟩
      revert s7 X7
      generalize upd H6 ds (.dK (fs.map kvF)) = H7
      intro s7 X7
      have s07 := s5.trans s7
      obtain ⟨⟨dx', dc', ds', dk', lr', lm', i1, i2, i3, i4, i5, i6⟩, _, _, _⟩ := S.same s07
      have RK : Rekind cs fs gs := ⟨gl, fun j f g hf hg' => ⟨(hg j f g hf hg').1, (hg j f g hf hg').2.1, (hg j f g hf hg').2.2.1⟩⟩
      refine ⟨_, rfl, x, C, dx', _, _, rfl, i1, T.cl, T.nR, lk_r, _, rfl, x, C, dx', _, _, rfl, i1, T.cl, T.nM, lk_m, _, _, rfl, ?_⟩
      refine ⟨_, rfl, x, C, dx', _, _, rfl, i1, T.cl, T.nC, lk_c, _, rfl, _, rfl, x, C, dx', _, _, rfl, i1, T.cl, T.nK, lk_k, _, rfl, _, rfl, rfl, rfl, fun y dy ny ndy ne => ?_⟩
      have s8 := sm_new (o := .ins C dy []) (sm_new (o := .own y) (.refl H7) ndy) ((upd_ne (fun z => ne z.symm)).trans ny)
      have nmE : gs.map (·.nm) = fs.map (·.nm) := by
        apply List.ext_getElem?
        intro j
        rw [List.getElem?_map, List.getElem?_map]
        by_cases jl : j < fs.length
        · obtain ⟨f', hf'⟩ : ∃ f', fs[j]? = some f' := ⟨_, List.getElem?_eq_getElem jl⟩
          obtain ⟨g', hg'⟩ : ∃ g', gs[j]? = some g' := ⟨_, List.getElem?_eq_getElem (by omega)⟩
          rw [hf', hg']
          exact congrArg some (RK.at_ j f' g' hf' hg').1
        · rw [List.getElem?_eq_none (by omega), List.getElem?_eq_none (by omega)]
      have goodG : ∀ g ∈ gs, FnGood g := fun g mg' => by
        obtain ⟨j, hj⟩ := List.getElem?_of_mem mg'
        have jl := (List.getElem?_eq_some_iff.mp hj).1
        obtain ⟨f', hf'⟩ : ∃ f', fs[j]? = some f' := ⟨_, List.getElem?_eq_getElem (by omega)⟩
        obtain ⟨a1, a2, a3⟩ := RK.at_ j f' g hf' hj
        have gf := good f' (List.mem_of_getElem? hf')
        exact ⟨a1 ▸ gf.nm, a2 ▸ gf.many, a3 ▸ newKd_mem (fun c hc => (hcs c hc).2) gf.kd⟩
      refine ⟨y, dy, dc', E5, lr', lm', .ref dk', gs, rfl, upd_same, s8 _ _ i2, X7.same s8, nmE ▸ nd, goodG, by rw [gl]; exact few6, .inr ⟨dk', rfl, s8 _ _ i4⟩, .inl (s8 _ _ i5), .inl (s8 _ _ i6), fun H9 k9 S9 => ⟨rfl, ?_⟩⟩
      have s9 : Same H7 H9 := fun b o e => k9 b o (ne_of_none e ny) (s8 b o e)
      exact q H9 y gs (s07.trans s9) S9 RK
end
end K17
set_option Elab.async false
set_option linter.all false
set_option maxRecDepth 100000
set_option maxHeartbeats 4000000
namespace K17
open PySem PySem.Spec PyProof.Rows L2 PpSet
/-! ### most_bound, wrong_labels -/
theorem str_ref {x y : V} (h : x = y) : y = x := h.symm
/-- the kind that fs tell of the name -/
def kdOf (fs : List Fn) (z : Str) : Str := ((fs.find? fun f => f.nm == z).map (·.kd)).getD ""
theorem kdOf_at {fs : List Fn} (nd : (fs.map (·.nm)).Nodup) {f : Fn} (hf : f ∈ fs) : kdOf fs f.nm = f.kd := by
  unfold kdOf
  cases e : fs.find? fun g => g.nm == f.nm with
  | none =>
    have := List.find?_eq_none.mp e f hf
    simp at this
  | some g =>
    have hg : g ∈ fs := List.mem_of_find?_eq_some e
    have hn : g.nm = f.nm := by
      have := List.find?_some e
      exact beq_iff_eq.mp this
    obtain ⟨i, hi⟩ := List.getElem?_of_mem hg
    obtain ⟨j, hj⟩ := List.getElem?_of_mem hf
    have ei : (fs.map (·.nm))[i]? = some g.nm := by rw [List.getElem?_map, hi]; rfl
    have ej : (fs.map (·.nm))[j]? = some g.nm := by rw [List.getElem?_map, hj, hn]; rfl
    have il : i < (fs.map (·.nm)).length := (List.getElem?_eq_some_iff.mp ei).1
    have ij := (List.getElem?_inj il nd).mp (ei.trans ej.symm)
    subst ij
    rw [hi] at hj
    cases hj
    rfl
def pairD : Option (Nat × Nat) → PyData
  | some (i, j) => .tuple [.int (i : Nat), .int (j : Nat)]
  | none => .none
def rowD (kd : Str → Str) (ks : List Ask) (z : Str) : PyData := .tuple [.str z, .str (kd z), pairD (refute ks z (kd z))]
/-- the wrong labels, by name -/
def wrongD (kd : Str → Str) (ks : List Ask) (ys : List Str) : List PyData := (ys.filter fun z => !fitsB ks z (kd z)).map (rowD kd ks)
theorem take_next {α : Type} {l : List α} {i : Nat} {a : α} (h : l[i]? = some a) : l.take (i + 1) = l.take i ++ [a] := by
  have hi := (List.getElem?_eq_some_iff.mp h)
  obtain ⟨hl, e⟩ := hi
  rw [← List.take_append_getElem hl, e]
theorem nodup_take {l : List Str} (nd : l.Nodup) {i : Nat} {z : Str} (h : l[i]? = some z) : z ∉ l.take i := by
  intro hm
  obtain ⟨j, hj⟩ := List.getElem?_of_mem hm
  have jl : j < i := by
    have := (List.getElem?_eq_some_iff.mp hj).1
    rw [List.length_take] at this
    omega
  rw [List.getElem?_take_of_lt jl] at hj
  have il : j < l.length := (List.getElem?_eq_some_iff.mp hj).1
  have := (List.getElem?_inj il nd).mp (hj.trans h.symm)
  omega
theorem dpa_snoc {K : PySem.W.Frag} {H : Hp} : ∀ {vs : List V} {ds : List PyData} {v : V} {d : PyData}, DpAll K H vs ds → Dp K H v d → DpAll K H (vs ++ [v]) (ds ++ [d])
  | _, _, _, _, .nil, h => .cons h .nil
  | _, _, _, _, .cons a b, h => .cons a (dpa_snoc b h)
theorem dpa_len {K : PySem.W.Frag} {H : Hp} : ∀ {vs : List V} {ds : List PyData}, DpAll K H vs ds → vs.length = ds.length
  | _, _, .nil => rfl
  | _, _, .cons _ b => congrArg (· + 1) (dpa_len b)
section
variable {base : Heap} {mg : Str → Option Value} {K : PySem.W.Frag} {w : World} {P : Program}
def boundKv (ks : List Ask) (f : Str) : Str × Str := (f, bound ks f)
def spMostBound : Sp := fun vs H Q _ => ∃ (h : Addr) (ts : List Addr) (ks : List Ask), vs = [.ref h] ∧ Hist H h ts ks ∧
  ∀ (H' : Hp) (p : Addr) (ys : List Str), Same H H' → H p = none → ys.Nodup → (∀ z, z ∈ ys ↔ z ∈ ks.map (·.fn)) → ys.length ≤ 40 → H' p = some (.dK ((ys.map (boundKv ks)).map kvC)) → Q (.ref p) H'
theorem cal_mostBound (B : Bi mg) (G : Co K mg) (D : DefAt K mg "most_bound" sMostBound pMostBound) (c : Cal P w K mg base 3 "fits" spFits) : Cal P w K mg base 4 "most_bound" spMostBound := by
  refine D.cal (k := 3) scMostBound (fun vs H Q E h => ?_) (fun cdv ff A outer s H vs Q E hr h => ?_)
  · obtain ⟨h, ts, ks, rfl, _⟩ := h
    rfl
  · obtain ⟨h, ts, ks, rfl, X, q⟩ := h
    obtain ⟨ka, hk, hK⟩ := G.kinds
    have hu := hu_of hr
    refine ⟨_, pss_cons (ps_set (i := 1) scMostBound.nd rfl (.inl rfl) pe_dnewK)
      (pss_cons (ps_for PassesOwn.never rfl (pi_list (pe_callB (cr_sortedT rfl) (by rfl) B.sorted (by decide +kernel) (pa_cons (pe_callTy (cr_setT rfl) (by rfl) B.set (by decide +kernel) (pa_cons
          (pe_lc (own := [("use", 3)]) (g := gName 3) (tt := tYes) (te := tOp (rIxT K) (tVar 3) (tC (.int 1))) rfl scMostBound.nd (pi_list (pv 0)) (blkOk_by (N := nMostBound) (sc := defScope sMostBound) (by decide +kernel))
            (fun _ _ _ _ _ => pg_name (i := 3) scMostBound.nd rfl (Or.inl rfl)) (fun _ _ _ _ _ => pts_nil)
            (fun _ _ _ _ _ => pe_ix ix_tup (pv 3) pe_int (fun _ _ => rfl))) pa_nil)) pa_nil))) (pg_name (i := 2) scMostBound.nd rfl (.inr rfl))
        (pss_one (ps_dput hu (pv 1) (pv 2) (pe_ix ix_list
          (pe_lc (own := [("kind", 4)]) (g := gName 4) (tt := tB (tCall spFits [] L2.E0 (tCons (tVar 0) (tCons (tVar 2) (tCons (tVar 4) tNil))))) (te := tVar 4) rfl scMostBound.nd (pi_tup (pe_glob (v := .ref ka) rfl hk rfl))
            (blkOk_by (N := nMostBound) (sc := defScope sMostBound) (by decide +kernel))
            (fun _ _ _ _ _ => pg_name (i := 4) scMostBound.nd rfl (Or.inl rfl)) (fun _ _ _ _ _ => pts_one (pt_val (pe_cl c hr (Nat.le_refl _) (by rfl) (pa_cons (pv 0) (pa_cons (pv 2) (pa_cons (pv 4) pa_nil))))))
            (fun _ _ _ _ _ => pv 4)) pe_int (fun _ _ => rfl)) rfl)))
      (pss_one (ps_ret (pv 1)))), ?_⟩
    intro fd nf
    have s0 := sm_new (o := .dK []) (.refl H) nf
    -- the names used
    refine ⟨_, rfl, h, rfl, ⟨_, SqL.of (s0 _ _ X.ls)⟩, fun l nl => ?_⟩
    have e0 : (upd H fd (.dK [])) fd = some (.dK []) := upd_same
    revert s0 e0 nl
    generalize upd H fd (.dK []) = H0
    intro s0 nl e0
    refine lc_it (walk_list (xs := ts.map V.ref)) (fun i H' => Same H0 H' ∧ H' l = some (.lst (((ks.map (·.fn)).take i).map V.str))) ⟨sm_new (.refl _) nl, upd_same⟩ (fun _ _ _ z => SqL.of (z.1 _ _ (s0 _ _ X.ls))) ?_ ?_
    · rintro i x H1 H2 hi ⟨s1, e⟩ ⟨rfl, hx⟩
      rw [List.length_map] at hi
      obtain ⟨t, k, gt, gk, hA, ok⟩ := (X.same (s0.trans s1)).get hi
      rw [List.getElem?_map, gt] at hx
      cases hx
      obtain ⟨ra, ht, hra⟩ := hA
      refine ⟨rfl, _, rfl, t, _, 1, .str k.fn, rfl, rfl, SqT.of ht, rfl, _, e, ?_, sm_put s1 nl, ?_⟩
      · rw [List.length_map, List.length_take]
        exact small1000 (by have := X.len; have := X.few; omega)
      · rw [upd_same, take_next (a := k.fn) (by rw [List.getElem?_map, gk]; rfl), List.map_append]
        rfl
    rintro H1 ⟨s1, e⟩
    rw [List.length_map, X.len, List.take_of_length_le (by rw [List.length_map]; exact Nat.le_refl _)] at e
    refine ⟨l, ks.map (·.fn), rfl, SqL.of e, by rw [List.length_map]; have := X.few; omega, fun p ls np nd len mem => ?_⟩
    rw [List.length_map] at len
    have s2 := sm_new (o := SetT w p ls) s1 np
    refine ⟨p, ls, rfl, upd_same, by have := X.few; omega, fun ys p2 pm np2 => ?_⟩
    have s3 := sm_new (o := .lst (ys.map V.str)) s2 np2
    have ndy : ys.Nodup := pm.symm.nodup nd
    have memy : ∀ z, z ∈ ys ↔ z ∈ ks.map (·.fn) := fun z => pm.mem_iff.trans (mem z)
    have leny : ys.length ≤ 40 := by
      rw [pm.length_eq]
      have := X.few
      omega
    have e3 : (upd (upd H1 p (SetT w p ls)) p2 (.lst (ys.map V.str))) p2 = some (.lst (ys.map V.str)) := upd_same
    have s03 := s0.trans s3
    refine ⟨p2, rfl, ⟨_, SqL.of e3⟩, for_it (walk_list (xs := ys.map V.str)) (fun i σ H' => ∃ x2, σ = [some (.ref h), some (.ref fd), x2, none, none] ∧ Same H H' ∧ H' p2 = some (.lst (ys.map V.str)) ∧ H' fd = some (.dK (((ys.take i).map (boundKv ks)).map kvC)))
      ⟨none, rfl, s03, e3, s3 _ _ e0⟩ (fun _ _ _ _ ⟨_, _, _, z, _⟩ => SqL.of z) ?_ ?_⟩
    · rintro i x σ H0' H4 hi ⟨x2, rfl, s4, e4, ed⟩ ⟨rfl, hx⟩
      obtain ⟨z, hz, rfl⟩ := map_getEq hx
      have il : i < ys.length := (List.getElem?_eq_some_iff.mp hz).1
      refine ⟨ka, rfl, ⟨_, hK _⟩, fun D nD => ?_⟩
      refine lc_it (walk_tup (xs := KN.map V.str)) (fun j H' => Same H4 H' ∧ H' D = some (.lst (((KN.take j).filter (fitsB ks z)).map V.str))) ⟨sm_new (.refl _) nD, upd_same⟩ (fun _ _ _ _ => hK _) ?_ ?_
      · rintro j x H5 H6 hj ⟨s5, e5⟩ ⟨rfl, hx⟩
        obtain ⟨kd, hkd, rfl⟩ := map_getEq hx
        have hl : ((KN.take j).filter (fitsB ks z)).length ≤ 4 := Nat.le_trans (List.length_filter_le _ _) (by rw [List.length_take]; exact Nat.min_le_right _ _)
        refine ⟨rfl, _, rfl, .str z, rfl, .str kd, rfl, h, z, kd, ts, ks, rfl, X.same (s4.trans s5), fun H7 s7 => ⟨_, rfl, ?_⟩⟩
        cases hf : fitsB ks z kd with
        | true =>
          refine iteT ⟨_, rfl, _, s7 _ _ e5, ?_, sm_put (s5.trans s7) nD, ?_⟩
          · rw [List.length_map]
            exact small1000 (by omega)
          · rw [upd_same, take_next hkd, List.filter_append, List.map_append]
            simp [hf]
        | false =>
          refine iteF ⟨s5.trans s7, ?_⟩
          rw [take_next hkd, List.filter_append]
          simp only [List.filter, hf]
          rw [List.append_nil]
          exact s7 _ _ e5
      rintro H6 ⟨s6, e6⟩
      have e6 : H6 D = some (.lst ((KN.filter (fitsB ks z)).map V.str)) := e6
      obtain ⟨r, er⟩ := bound_list ks z
      rw [er] at e6
      refine ⟨D, _, 0, .str (bound ks z), rfl, rfl, SqL.of e6, atI_nat (j := 0) rfl, ?_⟩
      refine ⟨_, rfl, .str z, rfl, fd, _, rfl, DPut.k (k := Sum.inr z) (s6 _ _ ed) ?_, ?_⟩
      · rw [List.length_map, List.length_map, List.length_take]
        exact small1000 (by omega)
      · have vn : valV (((ys.take i).map (boundKv ks)).map kvC) (Sum.inr z) = none := by
          rw [List.map_map]
          exact val_out (key := id) (val := fun f => V.str (bound ks f)) fun f hf e => nodup_take ndy hz (by rw [← e]; exact hf)
        refine ⟨_, rfl, sm_put (s4.trans s6) nf, ?_, ?_⟩
        · exact (upd_ne (ne_of (s6 _ _ e4) (s6 _ _ ed) (by intro z; cases z))).trans (s6 _ _ e4)
        · rw [upd_same, putK_new _ vn, take_next hz, List.map_append, List.map_append]
          rfl
    · rintro σ H4 ⟨x2, rfl, s4, e4, ed⟩
      rw [List.length_map, List.take_of_length_le (Nat.le_refl _)] at ed
      exact ⟨_, rfl, q H4 fd ys s4 nf ndy memy leny ed⟩
def spWrong (K : PySem.W.Frag) (C : Addr) : Sp := fun vs H Q _ => ∃ (x h : Addr) (fs : List Fn) (ts : List Addr) (ks : List Ask), vs = [.ref x, .ref h] ∧ Sch C H x fs ∧ Hist H h ts ks ∧
  ∀ (H' : Hp) (p : Addr) (ys : List Str), Same H H' → H p = none → ys.Perm (fs.map (·.nm)) → Dp K H' (.ref p) (.list (wrongD (kdOf fs) ks ys)) → Q (.ref p) H'
theorem cal_wrong {C : Addr} (T : Cl K mg C) (D : DefAt K mg "wrong_labels" sWrongLabels pWrongLabels) (c1 : Cal P w K mg base 2 "refuting" spRefuting) (c : Cal P w K mg base 3 "fits" spFits)
    (m1 : Met P w K mg base 1 C "functions" (spFunctions C)) (m2 : Met P w K mg base 1 C "kind" (spKind C)) : Cal P w K mg base 4 "wrong_labels" (spWrong K C) := by
  refine D.cal (k := 3) scWrongLabels (fun vs H Q E h => ?_) (fun cdv ff A outer s H vs Q E hr h => ?_)
  · obtain ⟨x, h, fs, ts, ks, rfl, _⟩ := h
    rfl
  · obtain ⟨x, h, fs, ts, ks, rfl, S, X, q⟩ := h
    refine ⟨_, pss_cons (ps_set (i := 2) scWrongLabels.nd rfl (.inl rfl) (pe_lst pa_nil))
      (pss_cons (ps_for PassesOwn.never rfl (pi_list (pe_mc0 m1 T.cl hr (by decide) (pv 0))) (pg_name (i := 3) scWrongLabels.nd rfl (.inl rfl))
        (pss_cons (ps_set (i := 4) scWrongLabels.nd rfl (.inl rfl) (pe_mc m2 T.cl hr (by decide) (pv 0) (pa_cons (pv 3) pa_nil)))
        (pss_one (ps_if (pt_not (pt_val (pe_cl c hr (Nat.le_refl _) (by rfl) (pa_cons (pv 1) (pa_cons (pv 3) (pa_cons (pv 4) pa_nil))))))
          (pss_one (ps_expr (pe_bm PySem.F.plainAttrs_list PySem.F.slot_list_append PySem.F.type_list_append mt_append (pv 2) (pa_cons
            (pe_tup (pa_cons (pv 3) (pa_cons (pv 4) (pa_cons (pe_cl c1 hr (by decide) (by rfl) (pa_cons (pv 1) (pa_cons (pv 3) (pa_cons (pv 4) pa_nil)))) pa_nil)))) pa_nil)))) pss_nil))))
      (pss_one (ps_ret (pv 2)))), ?_⟩
    refine ⟨by show 0 ≤ sizeLine; decide, fun fd nf => ?_⟩
    have s0 := sm_new (o := .lst []) (.refl H) nf
    obtain ⟨dx, dc, ds, dk, lr, lm, h1, h2, h3, h4, h5, h6⟩ := (S.same s0).ex
    refine ⟨_, rfl, x, dx, _, rfl, h1, rfl, x, fs, rfl, S.same s0, fun ys p pm np => ?_⟩
    have s1 := sm_new (o := .lst (ys.map V.str)) s0 np
    have leny : ys.length ≤ 6 := by
      rw [pm.length_eq, List.length_map]
      exact S.few
    have e1 : (upd (upd H fd (.lst [])) p (.lst (ys.map V.str))) p = some (.lst (ys.map V.str)) := upd_same
    have e2 : (upd (upd H fd (.lst [])) p (.lst (ys.map V.str))) fd = some (.lst []) := keep1 upd_same np
    have nfp : p ≠ fd := fun z => by
      rw [z, upd_same] at np
      cases np
    revert s1 e1 e2
    generalize upd (upd H fd (.lst [])) p (.lst (ys.map V.str)) = H1
    intro s1 e1 e2
    refine ⟨p, rfl, ⟨_, SqL.of e1⟩, for_it (walk_list (xs := ys.map V.str)) (fun i σ H' => ∃ x3 x4, σ = [some (.ref x), some (.ref h), some (.ref fd), x3, x4] ∧ Same H H' ∧ H' p = some (.lst (ys.map V.str)) ∧
        ∃ vs, H' fd = some (.lst vs) ∧ ∀ H'', Keep fd H' H'' → DpAll K H'' vs (wrongD (kdOf fs) ks (ys.take i)))
      ⟨none, none, rfl, s1, e1, [], e2, fun _ _ => .nil⟩ (fun _ _ _ _ ⟨_, _, _, _, z, _⟩ => SqL.of z) ?_ ?_⟩
    · rintro i y σ H0' H2 hi ⟨x3, x4, rfl, s2, ep, vs, ed, dp⟩ ⟨rfl, hy⟩
      obtain ⟨z, hz, rfl⟩ := map_getEq hy
      obtain ⟨f, hf, rfl⟩ : ∃ f, f ∈ fs ∧ f.nm = z := by
        obtain ⟨f, hf, e⟩ := List.mem_map.mp (pm.mem_iff.mp (List.mem_of_getElem? hz))
        exact ⟨f, hf, e⟩
      have hkd := kdOf_at S.nd hf
      obtain ⟨dx', dc', ds', dk', lr', lm', i1, i2, i3, i4, i5, i6⟩ := (S.same s2).ex
      refine ⟨_, rfl, x, dx', _, rfl, i1, rfl, _, rfl, x, fs, f, rfl, (S.same s2).r, hf, ?_⟩
      refine ⟨_, rfl, _, rfl, _, rfl, h, f.nm, f.kd, ts, ks, rfl, X.same s2, fun H3 s23 => ⟨_, rfl, ?_⟩⟩
      have s3 := s2.trans s23
      have wt : wrongD (kdOf fs) ks (ys.take (i + 1)) = wrongD (kdOf fs) ks (ys.take i) ++ (if fitsB ks f.nm f.kd = true then [] else [rowD (kdOf fs) ks f.nm]) := by
        unfold wrongD
        rw [take_next hz, List.filter_append, List.map_append]
        simp only [List.filter, hkd]
        cases fitsB ks f.nm f.kd <;> rfl
      cases hfit : fitsB ks f.nm f.kd with
      | true =>
        rw [hfit, if_pos rfl, List.append_nil] at wt
        refine iteF ⟨_, _, rfl, s3, s23 _ _ ep, vs, s23 _ _ ed, fun H4 k4 => ?_⟩
        rw [wt]
        exact dp H4 ((Keep.of s23).trans k4)
      | false =>
        rw [hfit, if_neg (by intro z; cases z)] at wt
        refine iteT ?_
        have ed3 := s23 _ _ ed
        have lv : vs.length ≤ 6 := by
          rw [dpa_len (dp H2 (Keep.of (.refl H2)))]
          unfold wrongD
          rw [List.length_map]
          refine Nat.le_trans (List.length_filter_le _ _) ?_
          rw [List.length_take]
          omega
        refine ⟨_, rfl, .inl ⟨rfl, _, SqL.of ed3⟩, _, rfl, _, rfl, _, rfl, _, rfl, _, rfl, h, f.nm, f.kd, ts, ks, rfl, X.same s3, fun H4 s34 => ⟨fun e => ?_, fun a b pp e npp epp => ?_⟩⟩
        · have : fitsB ks f.nm f.kd = true := by unfold fitsB; rw [e]; rfl
          rw [hfit] at this
          cases this
        · refine ⟨by show 3 ≤ sizeLine; decide, fun tp ntp => ?_⟩
          have s4 := s3.trans s34
          have s5 := sm_new (o := .tup [.str f.nm, .str f.kd, .ref pp]) s4 ntp
          have ed5 := keep1 (u := .tup [.str f.nm, .str f.kd, .ref pp]) (s34 _ _ ed3) ntp
          refine ⟨fd, _, _, rfl, rfl, ed5, small1000 (by omega), ?_⟩
          show Ends.nx _ _ (upd (upd H4 tp (.tup [.str f.nm, .str f.kd, .ref pp])) fd (.lst (vs ++ [.ref tp])))
          have k6 : Keep fd H4 (upd (upd H4 tp (.tup [.str f.nm, .str f.kd, .ref pp])) fd (.lst (vs ++ [.ref tp]))) := (Keep.of (sm_new (.refl H4) ntp)).put
          refine ⟨_, _, rfl, sm_put s5 nf, (upd_ne nfp).trans (keep1 (s34 _ _ (s23 _ _ ep)) ntp), _, upd_same, fun H7 k7 => ?_⟩
          rw [wt]
          have kk : Keep fd H4 H7 := k6.trans k7
          refine dpa_snoc (dp H7 (((Keep.of (s23.trans s34))).trans kk)) ?_
          unfold rowD
          rw [hkd, e]
          have etp : H7 tp = some (.tup [.str f.nm, .str f.kd, .ref pp]) := by
            have ne : tp ≠ fd := ne_of (show (upd H4 tp (.tup [.str f.nm, .str f.kd, .ref pp])) tp = some (.tup [.str f.nm, .str f.kd, .ref pp]) from upd_same) ed5 (by intro z; cases z)
            exact k7 _ _ ne ((upd_ne ne).trans upd_same)
          have epp7 : H7 pp = some (.tup [.int (a : Nat), .int (b : Nat)]) := kk _ _ (ne_of epp (s34 _ _ ed3) (by intro z; cases z)) epp
          exact .tup (SqT.of etp) (.cons (.str _) (.cons (.str _) (.cons (.tup (SqT.of epp7) (.cons (.int _) (.cons (.int _) .nil))) .nil)))
    · rintro σ H2 ⟨x3, x4, rfl, s2, ep, vs, ed, dp⟩
      rw [List.length_map, List.take_of_length_le (Nat.le_refl _)] at dp
      exact ⟨_, rfl, q H2 fd ys s2 nf pm (.lst (SqL.of ed) (dp H2 (Keep.of (.refl H2))))⟩
end
end K17
set_option Elab.async false
set_option linter.all false
set_option maxRecDepth 100000
set_option maxHeartbeats 4000000
namespace K17
open PySem PySem.Spec PyProof.Rows L2 PpSet
/-! ### asks in order, right histories -/
/-- the asks are in order for the functions -/
structure Right (fs : List Fn) (ks : List Ask) : Prop where
  one : 1 ≤ ks.length
  ask : ∀ k ∈ ks, 0 ≤ k.st ∧ ∃ f ∈ fs, f.nm = k.fn ∧ k.args.length = f.many
  asc : ∀ (i : Nat) (a b : Ask), ks[i]? = some a → ks[i + 1]? = some b → a.st ≤ b.st
theorem eqv_nil_ints : ∀ ns : List Int, PyData.eqv (.list (ns.map PyData.int)) (.list []) = ns.isEmpty
  | [] => by simp [PyData.eqv, PyData.eqvAll]
  | n :: ns => by simp [PyData.eqv, PyData.eqvAll]
theorem shaped_ints (ns : List Int) : SeqAt.shaped (.list (ns.map PyData.int)) = true := by
  unfold SeqAt.shaped
  simp [PyData.canLay0, lay_ints, PyData.depth, dep_ints]
theorem shaped_none : SeqAt.shaped (.list []) = true := shaped_ints []
section
variable {base : Heap} {mg : Str → Option Value} {K : PySem.W.Frag} {w : World} {P : Program}
def spIsAsk (C : Addr) : Sp := fun vs H Q _ => ∃ (x t : Addr) (fs : List Fn) (f : Fn) (k : Ask), vs = [.ref x, .ref t] ∧ Sch C H x fs ∧ AskO H t k ∧ 0 ≤ k.st ∧ f ∈ fs ∧ f.nm = k.fn ∧ k.args.length = f.many ∧ ∀ H', Same H H' → Q (.bl true) H'
theorem cal_isAsk {C : Addr} (B : Bi mg) (T : Cl K mg C) (D : DefAt K mg "is_ask" sIsAsk pIsAsk) (c1 : Cal P w K mg base 1 "is_integer" spIsInt) (c2 : Cal P w K mg base 2 "is_row" spIsRow)
    (m1 : Met P w K mg base 1 C "functions" (spFunctions C)) (m2 : Met P w K mg base 1 C "arguments" (spArguments C)) : Cal P w K mg base 3 "is_ask" (spIsAsk C) := by
  refine D.cal (k := 2) scIsAsk (fun vs H Q E h => ?_) (fun cdv ff A outer s H vs Q E hr h => ?_)
  · obtain ⟨x, t, fs, f, k, rfl, _⟩ := h
    rfl
  · obtain ⟨x, t, fs, f, k, rfl, S, ⟨ra, ht, hra⟩, h0, hf, hn, hm, q⟩ := h
    have hS : SqT K H t [.int k.st, .str k.fn, .ref ra, .int k.val] := SqT.of ht
    refine ⟨_, pss_cons (ps_if (PW.pt (pw_or (pt_not (pt_val (pe_callB call_isi (by rfl) B.isinstance (by decide +kernel) (pa_cons (pv 1) (pa_cons (pe_bltn (v := .ty "tuple") (by rfl) B.tuple (by decide +kernel) rfl) pa_nil)))))
        (pw_or1 (pt_cmpR op_ne (pe_callB call_len_seq (by rfl) B.len PySem.boot_len (pa_cons (pv 1) pa_nil)) pe_int (nomark _)))))
        (pss_one (ps_ret pe_bl)) pss_nil)
      (pss_cons (ps_if (PW.pt (pw_or (pt_not (pt_val (pe_cl c1 hr (by decide) (by rfl) (pa_cons (pe_ix ix_tup (pv 1) pe_int (fun _ _ => rfl)) pa_nil))))
        (pw_or (pt_cmpR op_lt (pe_ix ix_tup (pv 1) pe_int (fun _ _ => rfl)) pe_int (nomark _))
        (pw_or (pt_not (pt_val (pe_cl c1 hr (by decide) (by rfl) (pa_cons (pe_ix ix_tup (pv 1) pe_int (fun _ _ => rfl)) pa_nil))))
        (pw_or1 (pt_not (pt_val (pe_callB call_isi (by rfl) B.isinstance (by decide +kernel) (pa_cons (pe_ix ix_tup (pv 1) pe_int (fun _ _ => rfl)) (pa_cons (pe_bltn (v := .ty "str") (by rfl) B.str (by decide +kernel) rfl) pa_nil))))))))))
        (pss_one (ps_ret pe_bl)) pss_nil)
      (pss_one (ps_ret (pe_and (pe_cmpR op_in_seq (pe_ix ix_tup (pv 1) pe_int (fun _ _ => rfl)) (pe_mc0 m1 T.cl hr (by decide) (pv 0)) rfl)
        (pe_one (pe_cl c2 hr (Nat.le_refl _) (by rfl) (pa_cons (pe_mc m2 T.cl hr (by decide) (pv 0) (pa_cons (pe_ix ix_tup (pv 1) pe_int (fun _ _ => rfl)) pa_nil)) (pa_cons (pe_ix ix_tup (pv 1) pe_int (fun _ _ => rfl)) pa_nil)))))))), ?_⟩
    refine ⟨_, rfl, _, _, _, _, true, rfl, .ty _, .base (.tup ht), kit_ty (by decide +kernel), true, rfl, iteF ?_⟩
    refine ⟨_, rfl, t, _, rfl, .inr hS, rfl, _, rfl, ?_⟩
    rw [decide_eq_true (show V.int (([V.int k.st, V.str k.fn, V.ref ra, V.int k.val].length : Nat) : Int) = V.int 4 from rfl)]
    refine iteF ⟨_, rfl, t, _, 0, .int k.st, rfl, rfl, hS, rfl, k.st, rfl, true, rfl, iteF ?_⟩
    refine ⟨_, rfl, t, _, 0, .int k.st, rfl, rfl, hS, rfl, _, _, rfl, rfl, _, rfl, ?_⟩
    rw [decide_eq_false (show ¬ k.st < 0 by omega)]
    refine iteF ⟨_, rfl, t, _, 3, .int k.val, rfl, rfl, hS, rfl, k.val, rfl, true, rfl, iteF ?_⟩
    refine ⟨_, rfl, t, _, 1, .str k.fn, rfl, rfl, hS, rfl, _, _, _, _, true, rfl, .ty _, .base (.str _), kit_ty (by decide +kernel), true, rfl, iteF ?_⟩
    obtain ⟨dx, dc, ds, dk, lr, lm, h1, _⟩ := S.ex
    refine ⟨_, rfl, t, _, 1, .str k.fn, rfl, rfl, hS, rfl, _, rfl, x, dx, _, rfl, h1, rfl, x, fs, rfl, S, fun ys p pm np => ?_⟩
    have s1 := sm_new (o := .lst (ys.map V.str)) (.refl H) np
    have hin : k.fn ∈ ys := pm.mem_iff.mpr (List.mem_map.mpr ⟨f, hf, hn⟩)
    refine ⟨p, _, rfl, .inl (SqL.of upd_same), rfl, flat_strs' _, ?_⟩
    rw [inV_str, decide_eq_true hin]
    have S1 := S.same s1
    obtain ⟨dx', dc', ds', dk', lr', lm', i1, _⟩ := S1.ex
    refine ⟨_, rfl, iteT ?_⟩
    refine ⟨_, rfl, x, dx', _, rfl, i1, rfl, _, rfl, t, _, 1, .str k.fn, rfl, rfl, SqT.same s1 hS, rfl, x, fs, f, by rw [hn]; rfl, S1, hf, ?_⟩
    refine ⟨_, rfl, t, _, 2, .ref ra, rfl, rfl, SqT.same s1 hS, rfl, ra, k.args, by rw [hm]; rfl, s1 _ _ hra, ?_, fun H2 s2 => q H2 (s1.trans s2)⟩
    rw [hm]
    have := (S.good f hf).many
    omega
theorem cal_alikeAsks (D : DefAt K mg "are_alike_asks" sAlikeAsks pAlikeAsks) : Cal P w K mg base 1 "are_alike_asks" spAgree := by
  refine D.cal (k := 0) scAlikeAsks (fun vs H Q E h => ?_) (fun cdv f A outer s H vs Q E hr h => ?_)
  · obtain ⟨kd, t, u, a, b, rfl, _⟩ := h
    rfl
  · obtain ⟨kd, t, u, a, b, rfl, ⟨ra, ht, hra⟩, ⟨rb, hu, hrb⟩, oa, ob, q⟩ := h
    refine ⟨_, C8.pss_cut (ps_if (PW.pt (pw_and (pt_cmpR op_eq (pv 0) pe_str (nomark _)) (pw_and1 (pt_cmpR op_ne (pe_ix ix_tup (pv 1) pe_int (fun _ _ => rfl)) (pe_ix ix_tup (pv 2) pe_int (fun _ _ => rfl)) (nomark _)))))
        (pss_one (ps_ret pe_bl)) pss_nil)
      (pss_one (ps_ret (pe_and (pe_cmpR op_in_seq (pv 0) (pe_tup (pa_cons pe_str (pa_cons pe_str pa_nil))) rfl)
        (pe_one (pe_cmpR (op_eqD hr.units) (pe_slice sl_tup (pv 1) (po_some pe_int) (po_some pe_int)) (pe_slice sl_tup (pv 2) (po_some pe_int) (po_some pe_int)) (nomark _)))))), ?_⟩
    have hta : SqT K H t [.int a.st, .str a.fn, .ref ra, .int a.val] := SqT.of ht
    have hub : SqT K H u [.int b.st, .str b.fn, .ref rb, .int b.val] := SqT.of hu
    refine ⟨fun σ' H' => σ' = start nAlikeAsks [.str kd, .ref t, .ref u] ∧ H' = H ∧ (kd = "stable" → a.st = b.st), ?_, ?_⟩
    · refine ⟨_, rfl, rfl, _, rfl, ?_⟩
      by_cases h2 : kd = "stable"
      · subst h2
        rw [decide_eq_true rfl]
        refine iteT ⟨_, rfl, t, _, 0, .int a.st, rfl, rfl, hta, rfl, _, rfl, u, _, 0, .int b.st, rfl, rfl, hub, rfl, rfl, _, rfl, ?_⟩
        by_cases hs : a.st = b.st
        · rw [decide_eq_true (congrArg V.int hs)]
          exact iteF ⟨rfl, rfl, fun _ => hs⟩
        · have hs' : ¬ V.int a.st = V.int b.st := fun z => hs (V.int.inj z)
          rw [decide_eq_false hs']
          refine iteT ?_
          have e : agree "stable" a b = false := by
            unfold agree near
            rw [decide_eq_false hs, decide_eq_false ne_sf]
            simp
          have q1 := q H (.refl H)
          rw [e] at q1
          exact q1
      · have h2' : ¬ V.str kd = V.str "stable" := fun z => h2 (V.str.inj z)
        rw [decide_eq_false h2']
        exact iteF (iteF ⟨rfl, rfl, fun z => absurd z h2⟩)
    · rintro σ' H' ⟨rfl, rfl, hst⟩
      refine ⟨_, rfl, by show 2 ≤ sizeLine; decide, fun p hp => ?_⟩
      have s1 := sm_new (o := .tup [.str "fixed", .str "stable"]) (.refl H') hp
      refine ⟨p, _, rfl, .inr (SqT.of upd_same), rfl, rfl, _, rfl, ?_⟩
      rw [if_neg Bool.false_ne_true, inV_two]
      have hn : near kd a b = (decide (kd = "fixed") || decide (kd = "stable")) := by
        unfold near
        by_cases h2 : kd = "stable"
        · rw [decide_eq_true (hst h2), Bool.and_true]
        · rw [decide_eq_false h2, Bool.false_and]
      cases hc : (decide (kd = "fixed") || decide (kd = "stable")) with
      | false =>
        have e : agree kd a b = false := by
          unfold agree
          rw [hn, hc]
          rfl
        rw [e] at q
        exact iteF (q _ s1)
      | true =>
        have e : agree kd a b = same a b := by
          unfold agree
          rw [hn, hc]
          rfl
        rw [e] at q
        refine iteT ⟨_, rfl, 1, rfl, 3, rfl, t, _, rfl, SqT.same s1 hta, cut13, fun p1 hp1 => ?_⟩
        have s2 := sm_new (o := .tup (cutV [V.int a.st, V.str a.fn, V.ref ra, V.int a.val] (some 1) (some 3))) s1 hp1
        refine ⟨_, rfl, 1, rfl, 3, rfl, u, _, rfl, SqT.same s2 hub, cut13, fun p2 hp2 => ?_⟩
        have s3 := sm_new (o := .tup (cutV [V.int b.st, V.str b.fn, V.ref rb, V.int b.val] (some 1) (some 3))) s2 hp2
        refine ⟨keyD a, keyD b, dp_key (keep1 upd_same hp2) (s3 _ _ hra), dp_key upd_same (s3 _ _ hrb), shaped_key oa, shaped_key ob, ?_⟩
        rw [eqv_key]
        exact q _ s3
theorem cut_drop {xs : List V} (h : 1 ≤ xs.length) : cutV xs (some 1) none = xs.drop 1 := by
  have e : HT.sIx xs.length 0 (some ((1 : Nat) : Int)) = 1 := by rw [HT.sIx_nat, Nat.min_eq_left h]
  have e' : HT.sIx xs.length 0 (some 1) = 1 := e
  unfold cutV
  rw [HT.sIx_none, e', List.take_of_length_le (by rw [List.length_drop]; exact Nat.le_refl _)]
def badH (kd : Str) (a b : Ask) : Bool := agree kd a b && decide (a.val ≠ b.val)
def spIsHist (C : Addr) : Sp := fun vs H Q _ => ∃ (x h : Addr) (fs : List Fn) (ts : List Addr) (ks : List Ask), vs = [.ref x, .ref h] ∧ Sch C H x fs ∧ Hist H h ts ks ∧ Right fs ks ∧ ∀ H', Same H H' → Q (.bl (histB (kdOf fs) ks)) H'
theorem cal_isHist {C : Addr} (B : Bi mg) (T : Cl K mg C) (D : DefAt K mg "is_history" sIsHistory pIsHistory) (c1 : Cal P w K mg base 3 "is_ask" (spIsAsk C)) (c2 : Cal P w K mg base 1 "are_alike_asks" spAgree)
    (m2 : Met P w K mg base 1 C "kind" (spKind C)) : Cal P w K mg base 4 "is_history" (spIsHist C) := by
  refine D.cal (k := 3) scIsHistory (fun vs H Q E h => ?_) (fun cdv ff A outer s H vs Q E hr h => ?_)
  · obtain ⟨x, h, fs, ts, ks, rfl, _⟩ := h
    rfl
  · obtain ⟨x, h, fs, ts, ks, rfl, S, X, R, q⟩ := h
    refine ⟨_, pss_cons (ps_if (PW.pt (pw_or (pt_not (pt_val (pe_callB call_isi (by rfl) B.isinstance (by decide +kernel) (pa_cons (pv 1) (pa_cons (pe_bltn (v := .ty "list") (by rfl) B.list (by decide +kernel) rfl) pa_nil)))))
        (pw_or (pt_not (pt_chain op_le op_le pe_int (pe_callB call_len_seq (by rfl) B.len PySem.boot_len (pa_cons (pv 1) pa_nil)) pe_int))
        (pw_or1 (pt_not (pt_val (pe_callB (cr_all rfl) (by rfl) B.all (by decide +kernel)
          (pa_cons (pe_lc (own := [("ask", 2)]) (g := gName 2) (tt := tYes) (te := tCall (spIsAsk C) [] L2.E0 (tCons (tVar 0) (tCons (tVar 2) tNil))) rfl scIsHistory.nd (pi_list (pv 1)) (blkOk_by (N := nIsHistory) (sc := defScope sIsHistory) (by decide +kernel))
            (fun _ _ _ _ _ => pg_name (i := 2) scIsHistory.nd rfl (Or.inl rfl)) (fun _ _ _ _ _ => pts_nil)
            (fun _ _ _ _ _ => pe_cl c1 hr (Nat.le_refl _) (by rfl) (pa_cons (pv 0) (pa_cons (pv 2) pa_nil)))) pa_nil))))))))
        (pss_one (ps_ret pe_bl)) pss_nil)
      (pss_cons (ps_if (pt_cmpR (op_neD hr.units)
          (pe_lc (own := [("one", 5), ("other", 6)]) (g := gTup K 2 (gCons (gName 5) (gCons (gName 6) gNil))) (tt := tTest (tOp (rI0 fun i j => .bl (decide (i < j))) (tOp (rIxT K) (tVar 6) (tC (.int 0))) (tOp (rIxT K) (tVar 5) (tC (.int 0))))) (te := tC (.int 1))
            rfl scIsHistory.nd (pi_zip (by rfl) B.zip (pa_cons (pv 1) (pa_cons (pe_slice sl_list (pv 1) (po_some pe_int) po_none) pa_nil))) (blkOk_by (N := nIsHistory) (sc := defScope sIsHistory) (by decide +kernel))
            (fun _ _ _ _ _ => pg_tup rfl (pgs_cons (pg_name (i := 5) scIsHistory.nd rfl (Or.inl rfl)) (pgs_cons (pg_name (i := 6) scIsHistory.nd rfl (Or.inl rfl)) pgs_nil)))
            (fun _ _ _ _ _ => pts_one (pt_cmpR op_lt (pe_ix ix_tup (pv 6) pe_int (fun _ _ => rfl)) (pe_ix ix_tup (pv 5) pe_int (fun _ _ => rfl)) (nomark _)))
            (fun _ _ _ _ _ => pe_int)) (pe_lst pa_nil) (nomark _))
        (pss_one (ps_ret pe_bl)) pss_nil)
      (pss_cons (ps_for PassesOwn.never rfl (pi_enum (by rfl) B.enumerate (pa_cons (pv 1) pa_nil))
          (pg_tup rfl (pgs_cons (pg_name (i := 3) scIsHistory.nd rfl (.inl rfl)) (pgs_cons (pg_name (i := 2) scIsHistory.nd rfl (.inr rfl)) pgs_nil)))
        (pss_cons (ps_set (i := 4) scIsHistory.nd rfl (.inr rfl) (pe_mc m2 T.cl hr (by decide) (pv 0) (pa_cons (pe_ix ix_tup (pv 2) pe_int (fun _ _ => rfl)) pa_nil)))
        (pss_one (ps_if (pt_cmpR (op_neD hr.units)
          (pe_lc (own := [("one", 5)]) (g := gName 5)
            (tt := tAnd (tB (tCall spAgree [] L2.E0 (tCons (tVar 4) (tCons (tVar 5) (tCons (tVar 2) tNil))))) (tTest (tOp rNe (tOp (rIxT K) (tVar 5) (tC (.int 3))) (tOp (rIxT K) (tVar 2) (tC (.int 3)))))) (te := tC (.int 1))
            rfl scIsHistory.nd (pi_list (pe_slice sl_list (pv 1) po_none (po_some (pv 3)))) (blkOk_by (N := nIsHistory) (sc := defScope sIsHistory) (by decide +kernel))
            (fun _ _ _ _ _ => pg_name (i := 5) scIsHistory.nd rfl (Or.inl rfl))
            (fun _ _ _ _ _ => pts_one (PW.pt (pw_and (pt_val (pe_cl c2 hr (by decide) (by rfl) (pa_cons (pv 4) (pa_cons (pv 5) (pa_cons (pv 2) pa_nil)))))
              (pw_and1 (pt_cmpR op_ne (pe_ix ix_tup (pv 5) pe_int (fun _ _ => rfl)) (pe_ix ix_tup (pv 2) pe_int (fun _ _ => rfl)) (nomark _))))))
            (fun _ _ _ _ _ => pe_int)) (pe_lst pa_nil) (nomark _))
          (pss_one (ps_ret pe_bl)) pss_nil))))
      (pss_one (ps_ret pe_bl)))), ?_⟩
    have len1 : 1 ≤ ts.length := by
      have := R.one
      have := X.len
      omega
    refine ⟨_, rfl, _, _, _, _, true, rfl, .ty _, .base (.lst X.ls), kit_ty (by decide +kernel), true, rfl, iteF ?_⟩
    refine ⟨_, rfl, h, _, rfl, .inl (SqL.of X.ls), _, _, rfl, rfl, _, rfl, ?_⟩
    rw [decide_eq_true (show (1 : Int) ≤ ((ts.map V.ref).length : Nat) by rw [List.length_map]; omega)]
    refine iteT ⟨_, _, rfl, rfl, _, rfl, ?_⟩
    rw [decide_eq_true (show (((ts.map V.ref).length : Nat) : Int) ≤ 40 by rw [List.length_map, X.len]; have := X.few; omega)]
    refine iteF ?_
    refine ⟨_, rfl, h, rfl, ⟨_, SqL.of X.ls⟩, fun p hp => ?_⟩
    refine lc_it (walk_list (xs := ts.map V.ref)) (fun i H' => Same H H' ∧ H' p = some (.lst (List.replicate i (.bl true)))) ⟨sm_new (.refl H) hp, upd_same⟩ (fun _ _ _ z => SqL.of (z.1 _ _ X.ls)) ?_ ?_
    · rintro i y H1 H2 hi ⟨s1, e⟩ ⟨rfl, hy⟩
      rw [List.length_map] at hi
      obtain ⟨t, k, gt, gk, hA, ok⟩ := (X.same s1).get hi
      rw [List.getElem?_map, gt] at hy
      cases hy
      obtain ⟨h0, f, hf, hn, hm⟩ := R.ask k (List.mem_of_getElem? gk)
      refine ⟨rfl, _, rfl, _, rfl, x, t, fs, f, k, rfl, S.same s1, hA, h0, hf, hn, hm, fun H3 s3 => ⟨_, s3 _ _ e, ?_, sm_put (s1.trans s3) hp, ?_⟩⟩
      · rw [List.length_replicate]
        exact small1000 (by have := X.few; have := X.len; omega)
      · rw [upd_same, List.replicate_succ']
    rintro H1 ⟨s1, e⟩
    refine ⟨p, List.replicate (ts.map V.ref).length true, rfl, SqL.of (by rw [List.map_replicate]; exact e), true, ?_, iteF ?_⟩
    · have : (List.replicate (ts.map V.ref).length true).all id = true := by simp
      rw [this]
    -- the statements do not go back
    refine ⟨_, rfl, _, rfl, 1, rfl, h, _, rfl, SqL.of (s1 _ _ X.ls), fun p2 np2 => ?_⟩
    rw [cut_drop (by rw [List.length_map]; exact len1)]
    have s2 := sm_new (o := .lst ((ts.map V.ref).drop 1)) s1 np2
    refine ⟨h, p2, _, _, rfl, SqL.of (s2 _ _ X.ls), SqL.of upd_same, fun D nD => ?_⟩
    have e2 : (upd H1 p2 (.lst ((ts.map V.ref).drop 1))) p2 = some (.lst ((ts.map V.ref).drop 1)) := upd_same
    revert s2 nD e2
    generalize upd H1 p2 (.lst ((ts.map V.ref).drop 1)) = H2
    intro s2 nD e2
    refine lc_it (walk_zip (xs := ts.map V.ref) (ys := (ts.map V.ref).drop 1) (n := ts.length - 1) (by rw [List.length_drop, List.length_map]; omega)) (fun i H' => Same H2 H' ∧ H' D = some (.lst [])) ⟨sm_new (.refl _) nD, upd_same⟩
      (fun _ _ _ z => ⟨SqL.of (z.1 _ _ (s2 _ _ X.ls)), SqL.of (z.1 _ _ e2)⟩) ?_ ?_
    · rintro i y H3 H4 hi ⟨s3, e3⟩ ⟨T2, y1, y2, rfl, nT, rfl, g1, g2⟩
      have g1 : (ts.map V.ref)[i]? = some y1 := g1
      have g2 : ((ts.map V.ref).drop 1)[i]? = some y2 := g2
      rw [List.getElem?_drop] at g2
      obtain ⟨t1, k1, gt1, gk1, hA1, _⟩ := (X.same (s2.trans s3)).get (i := i) (by omega)
      obtain ⟨t2, k2, gt2, gk2, hA2, _⟩ := (X.same (s2.trans s3)).get (i := i + 1) (by omega)
      rw [List.getElem?_map, gt1] at g1
      rw [Nat.add_comm, List.getElem?_map, gt2] at g2
      cases g1
      cases g2
      have s4 := sm_new (o := .tup [V.ref t1, V.ref t2]) s3 nT
      obtain ⟨r1, ht1, _⟩ := hA1.same (sm_new (o := .tup [V.ref t1, V.ref t2]) (.refl H3) nT)
      obtain ⟨r2, ht2, _⟩ := hA2.same (sm_new (o := .tup [V.ref t1, V.ref t2]) (.refl H3) nT)
      refine ⟨T2, _, rfl, SqT.of upd_same, rfl, .ref t1, [.ref t2], rfl, .ref t2, [], rfl, rfl, rfl, ?_⟩
      refine ⟨_, rfl, t2, _, 0, .int k2.st, rfl, rfl, SqT.of ht2, rfl, _, rfl, t1, _, 0, .int k1.st, rfl, rfl, SqT.of ht1, rfl, _, _, rfl, rfl, _, rfl, ?_⟩
      rw [decide_eq_false (show ¬ k2.st < k1.st by have := R.asc i k1 k2 gk1 gk2; omega)]
      exact iteF ⟨s4, keep1 e3 nT⟩
    rintro H3 ⟨s3, e3⟩
    refine ⟨by show 0 ≤ sizeLine; decide, fun l nl => ?_⟩
    have s4 := sm_new (o := .lst []) s3 nl
    refine ⟨.list [], .list [], .lst (SqL.of (keep1 e3 nl)) .nil, .lst (SqL.of upd_same) .nil, shaped_none, shaped_none, _, rfl, ?_⟩
    rw [show PyData.eqv (.list []) (.list []) = true from eqv_nil_ints []]
    refine iteF ?_
    have s5 := s2.trans s4
    revert s5
    generalize upd H3 l (.lst []) = H5
    intro s5
    -- each ask against the earlier ones
    refine ⟨_, rfl, h, ts.map V.ref, rfl, SqL.of (s5 _ _ X.ls), ?_⟩
    refine for_it (walk_enum (xs := ts.map V.ref)) (fun j σ H' => ∃ x2 x3 x4, σ = [some (.ref x), some (.ref h), x2, x3, x4, none, none] ∧ Same H H' ∧ ∀ j' i a b, j' < j → i < j' → ks[i]? = some a → ks[j']? = some b → badH (kdOf fs b.fn) a b = false)
      ⟨none, none, none, rfl, s5, fun j' _ _ _ hj => absurd hj (Nat.not_lt_zero _)⟩ (fun _ _ _ _ ⟨_, _, _, _, s1, _⟩ => s1.seq (SqL.of X.ls)) ?_ ?_
    · rintro j y σ H6 H7 hj ⟨x2, x3, x4, rfl, s6, hb⟩ ⟨T2, y1, y2, rfl, nT, rfl, g1, g2⟩
      cases g1
      rw [List.length_map] at hj
      obtain ⟨t, b, gt, gk, hA, ob⟩ := (X.same s6).get hj
      have g2 : (ts.map V.ref)[j]? = some y2 := g2
      rw [List.getElem?_map, gt] at g2
      cases g2
      have s7 := sm_new (o := .tup [.int (j : Nat), .ref t]) s6 nT
      refine ⟨T2, _, rfl, SqT.of upd_same, rfl, .int (j : Nat), [.ref t], rfl, .ref t, [], rfl, rfl, ?_⟩
      revert s7
      generalize upd H6 T2 (.tup [.int (j : Nat), .ref t]) = H7
      intro s7
      obtain ⟨rb, ht, hrb⟩ := (X.same s7).at_ j t b gt gk
      obtain ⟨h0, f, hf, hn, hm⟩ := R.ask b (List.mem_of_getElem? gk)
      have hkd := kdOf_at S.nd hf
      obtain ⟨dx, dc, ds, dk, lr, lm, i1, _⟩ := (S.same s7).ex
      refine ⟨_, rfl, x, dx, _, rfl, i1, rfl, _, rfl, t, _, 1, .str b.fn, rfl, rfl, SqT.of ht, rfl, x, fs, f, by rw [hn]; rfl, (S.same s7).r, hf, ?_⟩
      refine ⟨_, rfl, .int (j : Nat), rfl, j, rfl, h, ts.map V.ref, rfl, SqL.of (s7 _ _ X.ls), fun c nc => ?_⟩
      rw [cut_take _ _ (by rw [List.length_map]; omega)]
      have s8 := sm_new (o := .lst ((ts.map V.ref).take j)) s7 nc
      have ec : (upd H7 c (.lst ((ts.map V.ref).take j))) c = some (.lst ((ts.map V.ref).take j)) := upd_same
      revert s8 ec
      generalize upd H7 c (.lst ((ts.map V.ref).take j)) = H8
      intro s8 ec
      refine ⟨c, rfl, ⟨_, SqL.of ec⟩, fun D nD => ?_⟩
      refine lc_it (walk_list (xs := (ts.map V.ref).take j)) (fun i H' => Same H8 H' ∧ ∃ m : Nat, m ≤ i ∧ H' D = some (.lst ((List.replicate m (1 : Int)).map V.int)) ∧ (m = 0 → ∀ i' a, i' < i → ks[i']? = some a → badH f.kd a b = false) ∧
          (m ≠ 0 → ∃ i' a, i' < i ∧ ks[i']? = some a ∧ badH f.kd a b = true))
        ⟨sm_new (.refl _) nD, 0, Nat.le_refl _, upd_same, fun _ i' a hi => absurd hi (Nat.not_lt_zero _), fun z => absurd rfl z⟩ (fun _ _ _ z => SqL.of (z.1 _ _ ec)) ?_ ?_
      · rintro i y H9' H9 hi ⟨s9, m, hm, eD, hz, hp⟩ ⟨rfl, hy⟩
        rw [List.length_take, List.length_map] at hi
        have hij : i < j := by omega
        have s09 := s8.trans s9
        obtain ⟨u, a, gu, ga, hA2, oa⟩ := (X.same s09).get (i := i) (by omega)
        rw [List.getElem?_take_of_lt hij, List.getElem?_map, gu] at hy
        cases hy
        refine ⟨rfl, _, rfl, .ref u, rfl, .ref t, rfl, f.kd, u, t, a, b, rfl, hA2, (X.same s09).at_ j t b gt gk, oa, ob, fun H10 s10 => ⟨_, rfl, ?_⟩⟩
        have s010 := s09.trans s10
        obtain ⟨ra, hu, _⟩ := (X.same s010).at_ i u a gu ga
        obtain ⟨rb', ht', _⟩ := (X.same s010).at_ j t b gt gk
        have no : badH f.kd a b = false → m ≤ i + 1 ∧ H10 D = some (.lst ((List.replicate m (1 : Int)).map V.int)) ∧ (m = 0 → ∀ i' a, i' < i + 1 → ks[i']? = some a → badH f.kd a b = false) ∧
            (m ≠ 0 → ∃ i' a, i' < i + 1 ∧ ks[i']? = some a ∧ badH f.kd a b = true) := fun hbad => by
          refine ⟨by omega, s10 _ _ eD, fun z i' a' hi' ha' => ?_, fun z => ?_⟩
          · rcases Nat.lt_succ_iff_lt_or_eq.mp hi' with w | w
            · exact hz z i' a' w ha'
            · subst w
              rw [ga] at ha'
              cases ha'
              exact hbad
          · obtain ⟨i', a', w1, w2, w3⟩ := hp z
            exact ⟨i', a', by omega, w2, w3⟩
        cases hag : agree f.kd a b with
        | false =>
          refine iteF (iteF ⟨s9.trans s10, m, no ?_⟩)
          unfold badH
          rw [hag]
          rfl
        | true =>
          refine iteT ?_
          refine ⟨_, rfl, u, _, 3, .int a.val, rfl, rfl, SqT.of hu, rfl, _, rfl, t, _, 3, .int b.val, rfl, rfl, SqT.of ht', rfl, rfl, _, rfl, ?_⟩
          by_cases hv : a.val = b.val
          · rw [decide_eq_true (congrArg V.int hv)]
            refine iteF ⟨s9.trans s10, m, no ?_⟩
            unfold badH
            simp [hv]
          · have hv' : ¬ V.int a.val = V.int b.val := fun z => hv (V.int.inj z)
            rw [decide_eq_false hv']
            refine iteT ⟨_, s10 _ _ eD, ?_, sm_put (s9.trans s10) nD, m + 1, by omega, ?_, fun z => absurd z (Nat.succ_ne_zero _), fun _ => ⟨i, a, by omega, ga, ?_⟩⟩
            · rw [List.length_map, List.length_replicate]
              exact small1000 (by have := X.few; have := X.len; omega)
            · rw [upd_same, List.replicate_succ', List.map_append]
              rfl
            · unfold badH
              rw [hag]
              simp [hv]
      rintro H9 ⟨s9, m, hm, eD, hz, hp⟩
      rw [List.length_take, List.length_map] at hz hp
      refine ⟨by show 0 ≤ sizeLine; decide, fun l nl => ?_⟩
      have s10 := sm_new (o := .lst []) s9 nl
      refine ⟨.list ((List.replicate m (1 : Int)).map PyData.int), .list [], .lst (SqL.of (keep1 eD nl)) (dpa_ints _), .lst (SqL.of upd_same) .nil, shaped_ints _, shaped_none, _, rfl, ?_⟩
      rw [eqv_nil_ints]
      cases m with
      | zero =>
        refine iteF ⟨_, _, _, rfl, s8.trans s10, fun j' i' a' b' hj' hi' ha' hb' => ?_⟩
        rcases Nat.lt_succ_iff_lt_or_eq.mp hj' with w | w
        · exact hb j' i' a' b' w hi' ha' hb'
        · subst w
          rw [gk] at hb'
          cases hb'
          rw [← hn, hkd]
          exact hz rfl i' a' (by omega) ha'
      | succ m =>
        obtain ⟨i', a', w1, w2, w3⟩ := hp (Nat.succ_ne_zero _)
        refine iteT ?_
        have q1 := q _ (s8.trans s10)
        rw [hist_false (i := i') (j := j) (by omega) w2 gk (by rw [← hn, hkd]; exact w3)] at q1
        exact q1
    · rintro σ H6 ⟨x2, x3, x4, rfl, s6, hb⟩
      rw [List.length_map] at hb
      have q1 := q H6 s6
      rw [hist_iff.mpr (fun i j a b hij ha hb' => hb j i a b (by have := (List.getElem?_eq_some_iff.mp hb').1; rw [X.len]; exact this) hij ha hb')] at q1
      exact q1
end
end K17
set_option Elab.async false
set_option linter.all false
set_option maxRecDepth 100000
set_option maxHeartbeats 4000000
namespace K17
open PySem PySem.Spec PyProof.Rows L2 PpSet
/-! ### stores -/
def spanOf (cs : List (Str × Str)) (z : Str) : Str := (cs.lookup z).getD "never"
def optV : Option Nat → V
  | some i => .int (i : Nat)
  | none => .non
def lastFor (cs : List (Str × Str)) (ks : List Ask) (j : Nat) : Option Nat := match ks[j]? with
  | some b => lastI ks (spanOf cs b.fn) b j
  | none => none
theorem lastFor_at {cs : List (Str × Str)} {ks : List Ask} {j : Nat} {b : Ask} (h : ks[j]? = some b) : lastFor cs ks j = lastI ks (spanOf cs b.fn) b j := by
  unfold lastFor
  rw [h]
theorem lastI_next {ks : List Ask} {sp : Str} {a b : Ask} {n : Nat} (h : ks[n]? = some a) : lastI ks sp b (n + 1) = if keptB sp a b = true then some n else lastI ks sp b n := by
  show (match ks[n]? with | some a => if keptB sp a b = true then some n else lastI ks sp b n | none => lastI ks sp b n) = _
  rw [h]
theorem dec_strV {x y : Str} : decide (V.str x = V.str y) = decide (x = y) := by
  rw [Bool.eq_iff_iff]
  simp
theorem dec_intV {x y : Int} : decide (V.int x = V.int y) = decide (x = y) := by
  rw [Bool.eq_iff_iff]
  simp
section
variable {base : Heap} {mg : Str → Option Value} {K : PySem.W.Frag} {w : World} {P : Program}
def spEarlier : Sp := fun vs H Q _ => ∃ (d h : Addr) (j : Nat) (cs : List (Str × Str)) (ts : List Addr) (ks : List Ask), vs = [.ref d, .ref h, .int (j : Nat)] ∧ H d = some (.dK (cs.map kvC)) ∧ Hist H h ts ks ∧ j < ks.length ∧
  ∀ H', Same H H' → Q (optV (lastFor cs ks j)) H'
theorem cal_earlier (B : Bi mg) (D : DefAt K mg "earlier" sEarlier pEarlier) : Cal P w K mg base 1 "earlier" spEarlier := by
  refine D.cal (k := 0) scEarlier (fun vs H Q E h => ?_) (fun cdv ff A outer s H vs Q E hr h => ?_)
  · obtain ⟨d, h, j, cs, ts, ks, rfl, _⟩ := h
    rfl
  · obtain ⟨d, h, j, cs, ts, ks, rfl, hd, X, hj, q⟩ := h
    have hu := hu_of hr
    refine ⟨_, pss_cons (ps_par (i := 3) (j := 4) rfl scEarlier.nd rfl rfl (by decide) rfl rfl (pa_cons (pe_ix ix_list (pv 1) (pv 2) (fun _ _ => rfl)) (pa_cons pe_non pa_nil)) (by rfl))
      (pss_cons (ps_set (i := 5) scEarlier.nd rfl (.inl rfl) (pe_dget2 hu (pv 0) (pe_ix ix_tup (pv 3) pe_int (fun _ _ => rfl)) pe_str ⟨rfl, rfl, rfl, rfl⟩))
      (pss_cons (ps_for PassesOwn.never rfl (pi_enum (by rfl) B.enumerate (pa_cons (pe_slice sl_list (pv 1) po_none (po_some (pv 2))) pa_nil))
          (pg_tup rfl (pgs_cons (pg_name (i := 6) scEarlier.nd rfl (.inl rfl)) (pgs_cons (pg_name (i := 7) scEarlier.nd rfl (.inl rfl)) pgs_nil)))
        (pss_one (ps_if (PW.pt (pw_and (pt_cmpR (op_eqD hr.units) (pe_slice sl_tup (pv 7) (po_some pe_int) (po_some pe_int)) (pe_slice sl_tup (pv 3) (po_some pe_int) (po_some pe_int)) (nomark _))
            (pw_and1 (PW.pt (pw_or (pt_cmpR op_eq (pv 5) pe_str (nomark _)) (pw_or1 (PW.pt (pw_and (pt_cmpR op_eq (pv 5) pe_str (nomark _)) (pw_and1 (pt_cmpR op_eq (pe_ix ix_tup (pv 7) pe_int (fun _ _ => rfl)) (pe_ix ix_tup (pv 3) pe_int (fun _ _ => rfl)) (nomark _)))))))))))
          (pss_one (ps_set (i := 4) scEarlier.nd rfl (.inl rfl) (pv 6))) pss_nil)))
      (pss_one (ps_ret (pv 4))))), ?_⟩
    obtain ⟨t, b, gt, gk, ⟨rb, ht, hrb⟩, ob⟩ := X.get (i := j) (by rw [X.len]; exact hj)
    have htS : SqT K H t [.int b.st, .str b.fn, .ref rb, .int b.val] := SqT.of ht
    refine ⟨_, rfl, _, rfl, h, _, (j : Int), .ref t, rfl, rfl, SqL.of X.ls, atI_nat (by rw [List.getElem?_map, gt]; rfl), .ref t, .non, rfl, ?_⟩
    refine ⟨_, rfl, d, rfl, .inl ⟨_, .inl hd⟩, _, rfl, t, _, 1, .str b.fn, rfl, rfl, htS, rfl, valV (cs.map kvC) (Sum.inr b.fn), DGet.k (k := Sum.inr b.fn) hd, ?_⟩
    rw [val_look]
    have es : ((cs.lookup b.fn).map V.str).getD (V.str "never") = V.str (spanOf cs b.fn) := by
      unfold spanOf
      cases cs.lookup b.fn <;> rfl
    rw [es]
    refine ⟨_, rfl, _, rfl, j, rfl, h, _, rfl, SqL.of X.ls, fun c nc => ?_⟩
    rw [cut_take _ _ (by rw [List.length_map, X.len]; omega)]
    have s1 := sm_new (o := .lst ((ts.map V.ref).take j)) (.refl H) nc
    refine ⟨c, _, rfl, SqL.of upd_same, ?_⟩
    have ec : (upd H c (.lst ((ts.map V.ref).take j))) c = some (.lst ((ts.map V.ref).take j)) := upd_same
    refine for_it (walk_enum (xs := (ts.map V.ref).take j)) (fun i σ H' => ∃ x6 x7, σ = [some (.ref d), some (.ref h), some (.int (j : Nat)), some (.ref t), some (optV (lastI ks (spanOf cs b.fn) b i)), some (.str (spanOf cs b.fn)), x6, x7] ∧ Same H H' ∧ H' c = some (.lst ((ts.map V.ref).take j)))
      ⟨none, none, rfl, s1, ec⟩ (fun _ _ _ _ ⟨_, _, _, _, z⟩ => SqL.of z) ?_ ?_
    · rintro i y σ H2 H3 hi ⟨x6, x7, rfl, s2, e2⟩ ⟨U, y1, y2, rfl, nU, rfl, g1, g2⟩
      cases g1
      rw [List.length_take, List.length_map] at hi
      have hij : i < j := by omega
      obtain ⟨u, a, gu, ga, ⟨ra, hua, hra⟩, oa⟩ := (X.same s2).get (i := i) (by omega)
      have g2 : ((ts.map V.ref).take j)[i]? = some y2 := g2
      rw [List.getElem?_take_of_lt hij, List.getElem?_map, gu] at g2
      cases g2
      have s3 := sm_new (o := .tup [.int (i : Nat), .ref u]) s2 nU
      have n3 := sm_new (o := .tup [.int (i : Nat), .ref u]) (.refl H2) nU
      have e3 := keep1 (u := .tup [.int (i : Nat), .ref u]) e2 nU
      refine ⟨U, _, rfl, SqT.of upd_same, rfl, .int (i : Nat), [.ref u], rfl, .ref u, [], rfl, rfl, ?_⟩
      revert s3 n3 e3
      generalize upd H2 U (.tup [.int (i : Nat), .ref u]) = H3
      intro s3 n3 e3
      have hua3 := n3 _ _ hua
      refine ⟨_, rfl, 1, rfl, 3, rfl, u, _, rfl, SqT.of hua3, cut13, fun p1 hp1 => ?_⟩
      have s4 := sm_new (o := .tup (cutV [V.int a.st, V.str a.fn, V.ref ra, V.int a.val] (some 1) (some 3))) s3 hp1
      refine ⟨_, rfl, 1, rfl, 3, rfl, t, _, rfl, SqT.of (s4 _ _ ht), cut13, fun p2 hp2 => ?_⟩
      have s5 := sm_new (o := .tup (cutV [V.int b.st, V.str b.fn, V.ref rb, V.int b.val] (some 1) (some 3))) s4 hp2
      have e5 := keep1 (u := .tup (cutV [V.int b.st, V.str b.fn, V.ref rb, V.int b.val] (some 1) (some 3))) (keep1 (u := .tup (cutV [V.int a.st, V.str a.fn, V.ref ra, V.int a.val] (some 1) (some 3))) e3 hp1) hp2
      have hua5 := keep1 (u := .tup (cutV [V.int b.st, V.str b.fn, V.ref rb, V.int b.val] (some 1) (some 3))) (keep1 (u := .tup (cutV [V.int a.st, V.str a.fn, V.ref ra, V.int a.val] (some 1) (some 3))) hua3 hp1) hp2
      have hra5 := keep1 (u := .tup (cutV [V.int b.st, V.str b.fn, V.ref rb, V.int b.val] (some 1) (some 3))) (keep1 (u := .tup (cutV [V.int a.st, V.str a.fn, V.ref ra, V.int a.val] (some 1) (some 3))) (n3 _ _ hra) hp1) hp2
      refine ⟨keyD a, keyD b, dp_key (keep1 upd_same hp2) hra5, dp_key upd_same (s5 _ _ hrb), shaped_key oa, shaped_key ob, _, rfl, ?_⟩
      rw [eqv_key]
      revert s5 e5 hua5
      generalize upd (upd H3 p1 (.tup (cutV [V.int a.st, V.str a.fn, V.ref ra, V.int a.val] (some 1) (some 3)))) p2 (.tup (cutV [V.int b.st, V.str b.fn, V.ref rb, V.int b.val] (some 1) (some 3))) = H5
      intro s5 e5 hua5
      have no : keptB (spanOf cs b.fn) a b = false → ∃ x6 x7, [some (V.ref d), some (.ref h), some (.int (j : Nat)), some (.ref t), some (optV (lastI ks (spanOf cs b.fn) b i)), some (.str (spanOf cs b.fn)), some (.int (i : Nat)), some (.ref u)] =
          [some (V.ref d), some (.ref h), some (.int (j : Nat)), some (.ref t), some (optV (lastI ks (spanOf cs b.fn) b (i + 1))), some (.str (spanOf cs b.fn)), x6, x7] ∧ Same H H5 ∧ H5 c = some (.lst ((ts.map V.ref).take j)) := fun e => by
        rw [lastI_next ga, e, if_neg Bool.false_ne_true]
        exact ⟨_, _, rfl, s5, e5⟩
      have yes : keptB (spanOf cs b.fn) a b = true → ∃ x6 x7, [some (V.ref d), some (.ref h), some (.int (j : Nat)), some (.ref t), some (.int (i : Nat)), some (.str (spanOf cs b.fn)), some (.int (i : Nat)), some (.ref u)] =
          [some (V.ref d), some (.ref h), some (.int (j : Nat)), some (.ref t), some (optV (lastI ks (spanOf cs b.fn) b (i + 1))), some (.str (spanOf cs b.fn)), x6, x7] ∧ Same H H5 ∧ H5 c = some (.lst ((ts.map V.ref).take j)) := fun e => by
        rw [lastI_next ga, e, if_pos rfl]
        exact ⟨_, _, rfl, s5, e5⟩
      unfold keptB at no yes
      cases hs : same a b with
      | false =>
        rw [hs] at no
        exact iteF (iteF (no rfl))
      | true =>
        rw [hs, Bool.true_and] at no yes
        refine iteT ⟨_, rfl, rfl, _, rfl, ?_⟩
        rw [dec_strV]
        cases h1 : decide (spanOf cs b.fn = "ever") with
        | true =>
          rw [h1, Bool.true_or] at yes
          exact iteT (iteT ⟨_, rfl, yes rfl⟩)
        | false =>
          rw [h1, Bool.false_or] at no yes
          refine iteF ⟨_, rfl, rfl, _, rfl, ?_⟩
          rw [dec_strV]
          cases h2 : decide (spanOf cs b.fn = "statement") with
          | false =>
            rw [h2, Bool.false_and] at no
            exact iteF (iteF (no rfl))
          | true =>
            rw [h2, Bool.true_and] at no yes
            refine iteT ⟨_, rfl, u, _, 0, .int a.st, rfl, rfl, SqT.of hua5, rfl, _, rfl, t, _, 0, .int b.st, rfl, rfl, SqT.of (s5 _ _ ht), rfl, rfl, _, rfl, ?_⟩
            rw [dec_intV]
            cases h3 : decide (a.st = b.st) with
            | true =>
              rw [h3] at yes
              exact iteT ⟨_, rfl, yes rfl⟩
            | false =>
              rw [h3] at no
              exact iteF (no rfl)
    · rintro σ H2 ⟨x6, x7, rfl, s2, e2⟩
      rw [List.length_take, List.length_map, X.len, Nat.min_eq_left (Nat.le_of_lt hj)]
      refine ⟨_, rfl, ?_⟩
      have q1 := q H2 s2
      rw [lastFor_at gk] at q1
      exact q1
def spTold : Sp := fun vs H Q _ => ∃ (x : V) (d h : Addr) (cs : List (Str × Str)) (ts : List Addr) (ks : List Ask), vs = [x, .ref d, .ref h] ∧ H d = some (.dK (cs.map kvC)) ∧ Hist H h ts ks ∧
  (∀ (i j : Nat) (a b : Ask), lastFor cs ks j = some i → ks[i]? = some a → ks[j]? = some b → a.val = b.val) ∧
  ∀ H' p, Same H H' → H p = none → H' p = some (.lst ((ks.map (·.val)).map V.int)) → Q (.ref p) H'
theorem lastFor_lt {cs : List (Str × Str)} {ks : List Ask} {i j : Nat} (h : lastFor cs ks j = some i) : i < j := by
  unfold lastFor at h
  cases e : ks[j]? with
  | none =>
    rw [e] at h
    cases h
  | some b =>
    rw [e] at h
    exact (lastI_some h).1
theorem cal_told (B : Bi mg) (D : DefAt K mg "told" sTold pTold) (c : Cal P w K mg base 1 "earlier" spEarlier) : Cal P w K mg base 2 "told" spTold := by
  refine D.cal (k := 1) scTold (fun vs H Q E h => ?_) (fun cdv ff A outer s H vs Q E hr h => ?_)
  · obtain ⟨x, d, h, cs, ts, ks, rfl, _⟩ := h
    rfl
  · obtain ⟨x, d, h, cs, ts, ks, rfl, hd, X, hv, q⟩ := h
    refine ⟨_, pss_cons (ps_set (i := 3) scTold.nd rfl (.inl rfl) (pe_lst pa_nil))
      (pss_cons (ps_for PassesOwn.never rfl (pi_enum (by rfl) B.enumerate (pa_cons (pv 2) pa_nil))
          (pg_tup rfl (pgs_cons (pg_name (i := 4) scTold.nd rfl (.inl rfl)) (pgs_cons (pg_name (i := 5) scTold.nd rfl (.inl rfl)) pgs_nil)))
        (pss_cons (ps_set (i := 6) scTold.nd rfl (.inl rfl) (pe_cl c hr (Nat.le_refl _) (by rfl) (pa_cons (pv 1) (pa_cons (pv 2) (pa_cons (pv 4) pa_nil)))))
        (pss_one (ps_expr (pe_bm PySem.F.plainAttrs_list PySem.F.slot_list_append PySem.F.type_list_append mt_append (pv 3) (pa_cons
          (pe_ifExp (pt_cmpR op_isN (pv 6) pe_non (nomark _)) (pe_ix ix_tup (pv 5) pe_int (fun _ _ => rfl)) (pe_ix ix_list (pv 3) (pv 6) (fun _ _ => rfl))) pa_nil))))))
      (pss_one (ps_ret (pv 3)))), ?_⟩
    refine ⟨by show 0 ≤ sizeLine; decide, fun l nl => ?_⟩
    have s0 := sm_new (o := .lst []) (.refl H) nl
    have e0 : (upd H l (.lst [])) l = some (.lst []) := upd_same
    revert s0 e0
    generalize upd H l (.lst []) = H0
    intro s0 e0
    refine ⟨_, rfl, h, ts.map V.ref, rfl, SqL.of (s0 _ _ X.ls), ?_⟩
    refine for_it (walk_enum (xs := ts.map V.ref)) (fun j σ H' => ∃ x4 x5 x6, σ = [some x, some (.ref d), some (.ref h), some (.ref l), x4, x5, x6] ∧ Same H H' ∧ H' l = some (.lst (((ks.map (·.val)).take j).map V.int)))
      ⟨none, none, none, rfl, s0, e0⟩ (fun _ _ _ _ ⟨_, _, _, _, z, _⟩ => SqL.of (z _ _ X.ls)) ?_ ?_
    · rintro j y σ H1 H2 hj ⟨x4, x5, x6, rfl, s1, e1⟩ ⟨U, y1, y2, rfl, nU, rfl, g1, g2⟩
      cases g1
      rw [List.length_map] at hj
      obtain ⟨t, b, gt, gk, hA, ob⟩ := (X.same s1).get hj
      have g2 : (ts.map V.ref)[j]? = some y2 := g2
      rw [List.getElem?_map, gt] at g2
      cases g2
      have s2 := sm_new (o := .tup [.int (j : Nat), .ref t]) s1 nU
      have hjk : j < ks.length := by rw [← X.len]; exact hj
      refine ⟨U, _, rfl, SqT.of upd_same, rfl, .int (j : Nat), [.ref t], rfl, .ref t, [], rfl, rfl, ?_⟩
      refine ⟨_, rfl, _, rfl, _, rfl, d, h, j, cs, ts, ks, rfl, s2 _ _ hd, X.same s2, hjk, fun H3 s3 => ?_⟩
      have s03 := s2.trans s3
      have e3 := s3 _ _ (keep1 (u := .tup [.int (j : Nat), .ref t]) e1 nU)
      have few : ((ks.map (·.val)).take j).length ≤ 1000 := by
        rw [List.length_take, List.length_map]
        have := X.few
        omega
      refine ⟨_, rfl, .inl ⟨rfl, _, SqL.of e3⟩, _, rfl, rfl, _, rfl, ?_⟩
      have fin : ∃ l' xs y, V.ref l = .ref l' ∧ [V.int b.val] = [y] ∧ H3 l' = some (.lst xs) ∧ xs.length < sizeLine ∧ ∃ x4 x5 x6, [some x, some (.ref d), some (.ref h), some (.ref l), some (.int (j : Nat)), some (.ref t), some (optV (lastFor cs ks j))] =
          [some x, some (.ref d), some (.ref h), some (.ref l), x4, x5, x6] ∧ Same H (upd H3 l' (.lst (xs ++ [y]))) ∧ (upd H3 l' (.lst (xs ++ [y]))) l = some (.lst (((ks.map (·.val)).take (j + 1)).map V.int)) := by
        refine ⟨l, _, _, rfl, rfl, e3, small1000 (by rw [List.length_map]; exact few), _, _, _, rfl, sm_put s03 nl, ?_⟩
        rw [upd_same, take_next (a := b.val) (by rw [List.getElem?_map, gk]; rfl), List.map_append]
        rfl
      cases hl : lastFor cs ks j with
      | none =>
        rw [hl] at fin
        obtain ⟨rb, ht, hrb⟩ := (X.same s03).at_ j t b gt gk
        exact iteT ⟨_, rfl, t, _, 3, .int b.val, rfl, rfl, SqT.of ht, rfl, fin⟩
      | some i =>
        rw [hl] at fin
        have hij := lastFor_lt hl
        obtain ⟨a, ga⟩ : ∃ a, ks[i]? = some a := ⟨_, List.getElem?_eq_getElem (by omega)⟩
        have hval := hv i j a b hl ga gk
        refine iteF ⟨_, rfl, _, rfl, l, _, (i : Int), .int b.val, rfl, rfl, SqL.of e3, atI_nat ?_, fin⟩
        rw [List.getElem?_map, List.getElem?_take_of_lt hij, List.getElem?_map, ga, ← hval]
        rfl
    · rintro σ H1 ⟨x4, x5, x6, rfl, s1, e1⟩
      rw [List.length_map, X.len, List.take_of_length_le (by rw [List.length_map]; exact Nat.le_refl _)] at e1
      exact ⟨_, rfl, q H1 l s1 nl e1⟩
def rNoneQ : R2 := fun x y H Q => y = .non ∧ Q (.bl (decide (x = .non))) H
/-- the asks that a store does not answer -/
def askedI (cs : List (Str × Str)) (ks : List Ask) (n : Nat) : List Nat := (List.range n).filter fun j => (lastFor cs ks j).isNone
def natV (n : Nat) : V := .int (n : Int)
def spAsked : Sp := fun vs H Q _ => ∃ (x : V) (d h : Addr) (cs : List (Str × Str)) (ts : List Addr) (ks : List Ask), vs = [x, .ref d, .ref h] ∧ H d = some (.dK (cs.map kvC)) ∧ Hist H h ts ks ∧
  ∀ H' p, Same H H' → H p = none → H' p = some (.lst ((askedI cs ks ks.length).map natV)) → Q (.ref p) H'
theorem asked_next {cs : List (Str × Str)} {ks : List Ask} {n : Nat} : askedI cs ks (n + 1) = askedI cs ks n ++ (if (lastFor cs ks n).isNone = true then [n] else []) := by
  unfold askedI
  rw [List.range_succ, List.filter_append]
  cases h : (lastFor cs ks n).isNone <;> simp [h]
theorem asked_few {cs : List (Str × Str)} {ks : List Ask} {n : Nat} : (askedI cs ks n).length ≤ n := by
  unfold askedI
  exact Nat.le_trans (List.length_filter_le _ _) (by rw [List.length_range]; exact Nat.le_refl _)
theorem cal_asked (B : Bi mg) (D : DefAt K mg "asked" sAsked pAsked) (c : Cal P w K mg base 1 "earlier" spEarlier) : Cal P w K mg base 2 "asked" spAsked := by
  refine D.cal (k := 1) scAsked (fun vs H Q E h => ?_) (fun cdv ff A outer s H vs Q E hr h => ?_)
  · obtain ⟨x, d, h, cs, ts, ks, rfl, _⟩ := h
    rfl
  · obtain ⟨x, d, h, cs, ts, ks, rfl, hd, X, q⟩ := h
    refine ⟨_, pss_one (ps_ret (pe_lc (own := [("at", 3)]) (g := gName 3) (tt := tTest (tOp rNoneQ (tCall spEarlier [] L2.E0 (tCons (tVar 1) (tCons (tVar 2) (tCons (tVar 3) tNil)))) (tC .non))) (te := tVar 3)
        rfl scAsked.nd (pi_range1 rfl B.range (pa_cons (pe_callB call_len_seq (by rfl) B.len PySem.boot_len (pa_cons (pv 2) pa_nil)) pa_nil)) (blkOk_by (N := nAsked) (sc := defScope sAsked) (by decide +kernel))
        (fun _ _ _ _ _ => pg_name (i := 3) scAsked.nd rfl (Or.inl rfl)) (fun _ _ _ _ _ => pts_one (pt_cmpR op_isN (pe_cl c hr (Nat.le_refl _) (by rfl) (pa_cons (pv 1) (pa_cons (pv 2) (pa_cons (pv 3) pa_nil)))) pe_non (nomark _)))
        (fun _ _ _ _ _ => pv 3))), ?_⟩
    have hl : (ts.map V.ref).length = ks.length := by rw [List.length_map, X.len]
    refine ⟨_, rfl, h, _, rfl, .inl (SqL.of X.ls), ((ts.map V.ref).length : Nat), rfl, by omega, by have := X.few; omega, fun D nD => ?_⟩
    refine lc_it (walk_range (lo := 0) (n := (ts.map V.ref).length)) (fun i H' => Same H H' ∧ H' D = some (.lst ((askedI cs ks i).map natV))) ⟨sm_new (.refl _) nD, upd_same⟩ (fun _ _ _ _ => trivial) ?_ ?_
    · rintro i y H1' H1 hi ⟨s1, e1⟩ ⟨rfl, rfl⟩
      rw [hl] at hi
      refine ⟨rfl, _, rfl, _, rfl, _, rfl, d, h, i, cs, ts, ks, ?_, s1 _ _ hd, X.same s1, hi, fun H2 s2 => ⟨rfl, _, rfl, ?_⟩⟩
      · show [V.ref d, V.ref h, V.int (0 + (i : Int))] = _
        rw [Int.zero_add]
      · cases hf : lastFor cs ks i with
        | none =>
          refine iteT ⟨_, rfl, _, s2 _ _ e1, ?_, sm_put (s1.trans s2) nD, ?_⟩
          · rw [List.length_map]
            exact small1000 (by have := asked_few (cs := cs) (ks := ks) (n := i); have := X.few; omega)
          · rw [upd_same, asked_next, hf]
            show some (HO.lst (List.map natV (askedI cs ks i) ++ [V.int (0 + (i : Int))])) = some (HO.lst (List.map natV (askedI cs ks i ++ [i])))
            rw [List.map_append, Int.zero_add]
            rfl
        | some k =>
          refine iteF ⟨s1.trans s2, ?_⟩
          rw [asked_next, hf, if_neg (by intro z; cases z), List.append_nil]
          exact s2 _ _ e1
    · rintro H1 ⟨s1, e1⟩
      rw [hl] at e1
      exact q H1 D s1 nD e1
/-- the text's LASTING -/
def La (w : World) (K : PySem.W.Frag) (mg : Str → Option Value) : Prop := ∃ a, mg "LASTING" = some (.ref a) ∧ ∀ kd ∈ KN, KDct K w a kd (.str (lastOf kd))
def spLasting : Sp := fun vs H Q _ => ∃ kd : Str, vs = [.str kd] ∧ kd ∈ KN ∧ Q (.str (lastOf kd)) H
theorem cal_lasting (L : La w K mg) (D : DefAt K mg "lasting" sLasting pLasting) : Cal P w K mg base 1 "lasting" spLasting := by
  refine D.cal (k := 0) scLasting (fun vs H Q E h => ?_) (fun cdv ff A outer s H vs Q E hr h => ?_)
  · obtain ⟨kd, rfl, _⟩ := h
    rfl
  · obtain ⟨kd, rfl, hk, q⟩ := h
    obtain ⟨a, ha, hL⟩ := L
    refine ⟨_, pss_one (ps_ret (pe_ix ix_kdict (pe_glob (v := .ref a) rfl ha rfl) (pv 0) (fun _ _ => rfl))), ?_⟩
    exact ⟨_, rfl, a, kd, _, rfl, rfl, hL kd hk, q⟩
end
end K17
set_option Elab.async false
set_option linter.all false
set_option maxRecDepth 100000
set_option maxHeartbeats 4000000
namespace K17
open PySem PySem.Spec PyProof.Rows L2 PpSet
/-! ### the law's bag of numbers -/
abbrev bagL (x y z : Int) (c : Addr) : List V := [.int x, .int y, .int z, .ref c]
/-- the bag at b, its cells at c -/
def Bag (H : Hp) (b c : Addr) : Prop := ∃ (x y z : Int) (cells : List Int), H b = some (.lst (bagL x y z c)) ∧ 0 ≤ z ∧ c ≠ b ∧ H c = some (.lst (cells.map V.int))
theorem Bag.same {H H' : Hp} {b c : Addr} (s : Same H H') (h : Bag H b c) : Bag H' b c := by
  obtain ⟨x, y, z, cells, h1, h2, h3, h4⟩ := h
  exact ⟨x, y, z, cells, s _ _ h1, h2, h3, s _ _ h4⟩
theorem Bag.ls {H : Hp} {b c : Addr} (h : Bag H b c) : ∃ xs, H b = some (.lst xs) := by
  obtain ⟨x, y, z, cells, h1, _⟩ := h
  exact ⟨_, h1⟩
theorem Bag.no {H : Hp} {b c p : Addr} (h : Bag H b c) (n : H p = none) : p ≠ b ∧ p ≠ c := by
  obtain ⟨x, y, z, cells, h1, _, _, h4⟩ := h
  exact ⟨fun e => (by rw [e, h1] at n; cases n), fun e => (by rw [e, h4] at n; cases n)⟩
theorem Bag.put {H : Hp} {b c p : Addr} {o : HO} (h : Bag H b c) (n : p ≠ b ∧ p ≠ c) : Bag (upd H p o) b c := by
  obtain ⟨x, y, z, cells, h1, h2, h3, h4⟩ := h
  exact ⟨x, y, z, cells, (upd_ne n.1.symm).trans h1, h2, h3, (upd_ne n.2.symm).trans h4⟩
/-- a store at a place that was new meanwhile -/
theorem Keep.putF {b D : Addr} {o : HO} {H H5 H7 : Hp} (k5 : Keep b H H5) (n : H5 D = none) (k7 : Keep b H H7) : Keep b H (upd H7 D o) := fun a u nb e => by
  have ne : a ≠ D := fun z => by
    have := k5 a u nb e
    rw [z, n] at this
    cases this
  exact (upd_ne ne).trans (k7 a u nb e)
section
variable {base : Heap} {mg : Str → Option Value} {K : PySem.W.Frag} {w : World} {P : Program}
def spBag (K : PySem.W.Frag) : Sp := fun vs H Q _ => ∃ (a : Addr) (ns : List Int), vs = [.ref a] ∧ SqL K H a (ns.map V.int) ∧ ∀ H' b c, Same H H' → H b = none → Bag H' b c → Q (.ref b) H'
theorem cal_bag (B : Bi mg) (D : DefAt K mg "_law_bag" sBag pBag) : Cal P w K mg base 1 "_law_bag" (spBag K) := by
  refine D.cal (k := 0) scBag (fun vs H Q E h => ?_) (fun cdv ff A outer s H vs Q E hr h => ?_)
  · obtain ⟨a, ns, rfl, _⟩ := h
    rfl
  · obtain ⟨a, ns, rfl, ha, q⟩ := h
    refine ⟨_, pss_one (ps_ret (pe_lst (pa_cons pe_int (pa_cons pe_int (pa_cons pe_int (pa_cons
      (pe_lc (own := [("_law_cell", 1)]) (g := gName 1) (tt := tYes) (te := tCB (fun xs H Q => ∃ i, xs = [.int i] ∧ Q (.int (if i < 0 then -i else i)) H) (tCons (tVar 1) tNil)) rfl scBag.nd (pi_list (pe_slice sl_list (pv 0) po_none (po_some pe_int)))
        (blkOk_by (N := nBag) (sc := defScope sBag) (by decide +kernel))
        (fun _ _ _ _ _ => pg_name (i := 1) scBag.nd rfl (Or.inl rfl)) (fun _ _ _ _ _ => pts_nil)
        (fun _ _ _ _ _ => pe_callB call_abs (by rfl) B.abs (by decide +kernel) (pa_cons (pv 1) pa_nil))) pa_nil)))))), ?_⟩
    refine ⟨_, rfl, 63, rfl, a, _, rfl, ha, fun p np => ?_⟩
    have ec : cutV (ns.map V.int) none (some 63) = ((ns.take 63).map V.int) := by
      show cutV (ns.map V.int) none (some ((63 : Nat) : Int)) = _
      unfold cutV
      rw [HT.sIx_none, HT.sIx_nat, List.drop_zero, Nat.sub_zero, List.map_take]
      by_cases h : 63 ≤ (ns.map V.int).length
      · rw [Nat.min_eq_left h]
      · rw [Nat.min_eq_right (by omega), List.take_of_length_le (Nat.le_refl _), List.take_of_length_le (by omega)]
    rw [ec]
    have s1 := sm_new (o := .lst ((ns.take 63).map V.int)) (.refl H) np
    have e1 : (upd H p (.lst ((ns.take 63).map V.int))) p = some (.lst ((ns.take 63).map V.int)) := upd_same
    revert s1 e1
    generalize upd H p (.lst ((ns.take 63).map V.int)) = H1
    intro s1 e1
    refine ⟨p, rfl, ⟨_, SqL.of e1⟩, fun D nD => ?_⟩
    have l63 : (ns.take 63).length ≤ 63 := by rw [List.length_take]; omega
    refine lc_it (walk_list (xs := (ns.take 63).map V.int)) (fun i H' => Same H1 H' ∧ ∃ cs : List Int, cs.length = i ∧ H' D = some (.lst (cs.map V.int))) ⟨sm_new (.refl _) nD, [], rfl, upd_same⟩ (fun _ _ _ z => SqL.of (z.1 _ _ e1)) ?_ ?_
    · rintro i y H2' H2 hi ⟨s2, cs, hc, e2⟩ ⟨rfl, hy⟩
      obtain ⟨n, hn, rfl⟩ := map_getEq hy
      rw [List.length_map] at hi
      refine ⟨rfl, _, rfl, n, rfl, _, e2, ?_, sm_put s2 nD, cs ++ [if n < 0 then -n else n], by rw [List.length_append, hc]; rfl, ?_⟩
      · rw [List.length_map]
        exact small1000 (by omega)
      · rw [upd_same, List.map_append]
        rfl
    · rintro H2 ⟨s2, cs, hc, e2⟩
      refine ⟨by show 4 ≤ sizeLine; decide, fun b nb => ?_⟩
      have s12 := s1.trans s2
      refine q _ b D (sm_new s12 nb) (s12.free nb) ⟨0, 1234567891, 0, cs, upd_same, by decide, fun z => ?_, keep1 e2 nb⟩
      rw [z, nb] at e2
      cases e2
def spTake : Sp := fun vs H Q _ => ∃ (b c : Addr) (many : Int), vs = [.ref b, .int many] ∧ Bag H b c ∧ 0 < many ∧ many < 1073741824 ∧ ∀ H' r, Keep b H H' → Bag H' b c → 0 ≤ r → r < many → Q (.int r) H'
theorem cal_take (B : Bi mg) (D : DefAt K mg "_law_take" sTake pTake) : Cal P w K mg base 1 "_law_take" spTake := by
  refine D.cal (k := 0) scTake (fun vs H Q E h => ?_) (fun cdv ff A outer s H vs Q E hr h => ?_)
  · obtain ⟨b, c, many, rfl, _⟩ := h
    rfl
  · obtain ⟨b, c, many, rfl, G, hm0, hm1, q⟩ := h
    refine ⟨_, C8.pss_cut (ps_if (pt_cmpR op_eq (pe_ix ix_list (pv 0) pe_int (fun _ _ => rfl)) pe_int (nomark _))
        (pss_cons (ps_set (i := 2) scTake.nd rfl (.inl rfl) pe_int)
        (C8.pss_cut (ps_if (pt_cmpR op_lt (pe_ix ix_list (pv 0) pe_int (fun _ _ => rfl)) (pe_callB call_len_seq (by rfl) B.len PySem.boot_len (pa_cons (pe_ix ix_list (pv 0) pe_int (fun _ _ => rfl)) pa_nil)) (nomark _))
          (pss_one (ps_set (i := 2) scTake.nd rfl (.inl rfl) (pe_ix ix_list (pe_ix ix_list (pv 0) pe_int (fun _ _ => rfl)) (pe_ix ix_list (pv 0) pe_int (fun _ _ => rfl)) (fun _ _ => rfl)))) pss_nil)
        (pss_cons (ps_augS (pv 0) pe_int get_list pe_int ip_add set_list)
        (C8.pss_cut (ps_if (pt_cmpR op_ge (pv 2) pe_int (nomark _)) (pss_one (ps_asg (pv 2) (pg_sub (pv 0) pe_int set_list))) pss_nil)
        (pss_cons (ps_set (i := 3) scTake.nd rfl (.inl rfl) (pe_op op_add (pe_op op_add (pe_op op_mul (pe_ix ix_list (pv 0) pe_int (fun _ _ => rfl)) pe_int)
            (pe_op op_mod (pe_callTy call_int1 (by rfl) B.int (by decide +kernel) (pa_cons (pv 2) pa_nil)) pe_int)) (pe_op op_mul pe_int (pe_ix ix_list (pv 0) pe_int (fun _ _ => rfl)))))
        (pss_one (ps_asg (pe_op op_mod (pe_callTy call_int1 (by rfl) B.int (by decide +kernel) (pa_cons (pv 3) pa_nil)) pe_int) (pg_sub (pv 0) pe_int set_list)))))))) pss_nil)
      (pss_cons (ps_if (pt_cmpR op_gt (pe_ix ix_list (pv 0) pe_int (fun _ _ => rfl)) pe_int (nomark _))
        (pss_cons (ps_set (i := 4) scTake.nd rfl (.inl rfl) (pe_op op_mod (pe_callTy call_int1 (by rfl) B.int (by decide +kernel) (pa_cons (pe_ix ix_list (pv 0) pe_int (fun _ _ => rfl)) pa_nil)) (pv 1)))
        (pss_cons (ps_asg (pe_op op_fdiv (pe_ix ix_list (pv 0) pe_int (fun _ _ => rfl)) (pv 1)) (pg_sub (pv 0) pe_int set_list))
        (pss_one (ps_ret (pv 4))))) pss_nil)
      (pss_cons (ps_set (i := 5) scTake.nd rfl (.inl rfl) (pe_op op_mod (pe_callTy call_int1 (by rfl) B.int (by decide +kernel) (pa_cons (pe_op op_mul (pe_op op_add (pe_ix ix_list (pv 0) pe_int (fun _ _ => rfl)) pe_int) pe_int) pa_nil)) pe_int))
      (pss_cons (ps_set (i := 6) scTake.nd rfl (.inl rfl) (pe_op op_mod (pe_callTy call_int1 (by rfl) B.int (by decide +kernel) (pa_cons (pe_op op_mul (pe_op op_mod (pe_callTy call_int1 (by rfl) B.int (by decide +kernel) (pa_cons (pe_op op_mul (pv 5) (pv 5)) pa_nil)) pe_int) pe_int) pa_nil)) pe_int))
      (pss_cons (ps_if (pt_cmpR op_gt (pv 1) pe_int (nomark _))
        (pss_one (ps_ret (pe_op op_mod (pe_callTy call_int1 (by rfl) B.int (by decide +kernel) (pa_cons (pe_op op_add (pe_op op_mul (pv 6) pe_int) (pv 5)) pa_nil)) (pv 1)))) pss_nil)
      (pss_one (ps_ret (pe_op op_mod (pe_callTy call_int1 (by rfl) B.int (by decide +kernel) (pa_cons (pe_op op_fdiv (pv 6) pe_int) pa_nil)) (pv 1)))))))), ?_⟩
    refine ⟨fun σ' H' => ∃ s2 s3, σ' = [some (.ref b), some (.int many), s2, s3, none, none, none] ∧ Keep b H H' ∧ Bag H' b c, ?_, ?_⟩
    · obtain ⟨x, y, z, cells, hb, hz, hc, hcl⟩ := G
      refine ⟨_, rfl, b, _, 0, .int x, rfl, rfl, SqL.of hb, rfl, rfl, _, rfl, ?_⟩
      by_cases hx : x = 0
      · rw [decide_eq_true (congrArg V.int hx)]
        refine iteT ?_
        refine ⟨fun σ' H' => ∃ cell : Int, σ' = [some (.ref b), some (.int many), some (.int cell), none, none, none, none] ∧ H' = H, ?_, ?_⟩
        · refine ⟨_, rfl, b, _, 2, .int z, rfl, rfl, SqL.of hb, rfl, _, rfl, b, _, 3, .ref c, rfl, rfl, SqL.of hb, rfl, c, _, rfl, .inl (SqL.of hcl), _, _, rfl, rfl, _, rfl, ?_⟩
          by_cases hlt : z < ((cells.map V.int).length : Nat)
          · rw [decide_eq_true hlt]
            rw [List.length_map] at hlt
            have hzl : z.toNat < cells.length := by omega
            refine iteT ⟨_, rfl, b, _, 3, .ref c, rfl, rfl, SqL.of hb, rfl, _, rfl, b, _, 2, .int z, rfl, rfl, SqL.of hb, rfl, c, _, z, .int (cells[z.toNat]), rfl, rfl, SqL.of hcl, ?_, _, rfl, rfl⟩
            have e := atI_nat (xs := cells.map V.int) (j := z.toNat) (v := .int (cells[z.toNat])) (by rw [List.getElem?_map, List.getElem?_eq_getElem hzl]; rfl)
            rw [Int.toNat_of_nonneg hz] at e
            exact e
          · rw [decide_eq_false hlt]
            exact iteF ⟨0, rfl, rfl⟩
        · rintro σ' H' ⟨cell, rfl, rfl⟩
          refine ⟨_, rfl, b, _, 2, .int z, rfl, rfl, SqL.of hb, rfl, z, 1, rfl, rfl, b, _, 2, 2, rfl, rfl, hb, rfl, ?_⟩
          have k1 : Keep b H' (upd H' b (.lst (bagL x y (z + 1) c))) := (Keep.of (.refl H')).put
          have b1 : (upd H' b (.lst (bagL x y (z + 1) c))) b = some (.lst (bagL x y (z + 1) c)) := upd_same
          show C8.tCut _ _ _ _ (upd H' b (.lst (bagL x y (z + 1) c)))
          revert k1 b1
          generalize upd H' b (.lst (bagL x y (z + 1) c)) = H1
          intro k1 b1
          refine ⟨fun σ' H2 => ∃ x' : Int, σ' = [some (.ref b), some (.int many), some (.int cell), none, none, none, none] ∧ Keep b H' H2 ∧ H2 b = some (.lst (bagL x' y (z + 1) c)), ?_, ?_⟩
          · refine ⟨_, rfl, _, _, rfl, rfl, _, rfl, ?_⟩
            cases decide ((1000000000000000000 : Int) ≤ cell) with
            | true => exact iteT ⟨_, rfl, _, rfl, b, _, 0, 0, rfl, rfl, b1, rfl, cell, rfl, k1.put, upd_same⟩
            | false => exact iteF ⟨x, rfl, k1, b1⟩
          · rintro σ' H2 ⟨x', rfl, k2, b2⟩
            refine ⟨_, rfl, b, _, 1, .int y, rfl, rfl, SqL.of b2, rfl, _, _, rfl, rfl, .inr ⟨by decide, by decide⟩, _, rfl, .inl ⟨_, rfl, _, _, rfl, rfl, (by show (0 : Int) < 2147483647; decide), _, _, rfl, rfl, ?_⟩⟩
            refine ⟨_, rfl, b, _, 2, .int (z + 1), rfl, rfl, SqL.of b2, rfl, _, _, rfl, rfl, .inl ⟨by decide, by decide⟩, _, _, rfl, rfl, ?_⟩
            refine ⟨_, rfl, .inl ⟨_, rfl, _, _, rfl, rfl, (by show (0 : Int) < 2147483647; decide), _, rfl, b, _, 1, 1, rfl, rfl, b2, rfl, _, _, rfl, k2.put, _, _, z + 1, cells, upd_same, by omega, hc, ?_⟩⟩
            exact (upd_ne hc).trans (k2 _ _ hc hcl)
      · have hx' : ¬ V.int x = V.int 0 := fun e => hx (V.int.inj e)
        rw [decide_eq_false hx']
        exact iteF ⟨none, none, rfl, Keep.of (.refl H), x, y, z, cells, hb, hz, hc, hcl⟩
    · rintro σ' H1 ⟨s2, s3, rfl, k1, x, y, z, cells, hb, hz, hc, hcl⟩
      have fin : ∀ i : Int, ∀ H2, Keep b H H2 → Bag H2 b c → Q (.int (i % many)) H2 := fun i H2 k2 g2 => q H2 _ k2 g2 (Int.emod_nonneg _ (by omega)) (Int.emod_lt_of_pos _ hm0)
      refine ⟨_, rfl, b, _, 0, .int x, rfl, rfl, SqL.of hb, rfl, _, _, rfl, rfl, _, rfl, ?_⟩
      by_cases hx : 0 < x
      · rw [decide_eq_true hx]
        refine iteT ⟨_, rfl, b, _, 0, .int x, rfl, rfl, SqL.of hb, rfl, .inl ⟨x, rfl, _, rfl, _, _, rfl, rfl, hm0, ?_⟩⟩
        refine ⟨_, rfl, b, _, 0, .int x, rfl, rfl, SqL.of hb, rfl, _, rfl, _, _, rfl, rfl, ⟨hm0, hm1⟩, _, rfl, b, _, 0, 0, rfl, rfl, hb, rfl, _, rfl, ?_⟩
        exact fin x _ k1.put ⟨x / many, y, z, cells, upd_same, hz, hc, (upd_ne hc).trans hcl⟩
      · rw [decide_eq_false hx]
        have g1 : Bag H1 b c := ⟨x, y, z, cells, hb, hz, hc, hcl⟩
        refine iteF ⟨_, rfl, b, _, 1, .int y, rfl, rfl, SqL.of hb, rfl, _, _, rfl, rfl, _, _, rfl, rfl, .inr ⟨by decide, by decide⟩, .inl ⟨_, rfl, _, _, rfl, rfl, (by show (0 : Int) < 1000000007; decide), ?_⟩⟩
        have hb0 : 0 ≤ (y + 1) * 39373 % 1000000007 := Int.emod_nonneg _ (by decide)
        have hb1 : (y + 1) * 39373 % 1000000007 < 1000000007 := Int.emod_lt_of_pos _ (by decide)
        revert hb0 hb1
        show _ → _ → tSeq _ _ _ ([some (V.ref b), some (.int many), s2, s3, none, some (.int ((y + 1) * 39373 % 1000000007)), none]) H1
        generalize (y + 1) * 39373 % 1000000007 = bg
        intro hb0 hb1
        refine ⟨_, rfl, _, rfl, _, _, rfl, rfl, .inl ⟨by omega, by omega⟩, .inl ⟨_, rfl, _, _, rfl, rfl, (by show (0 : Int) < 998244353; decide), _, _, rfl, rfl, .inr ⟨by decide, by decide⟩, .inl ⟨_, rfl, _, _, rfl, rfl, (by show (0 : Int) < 998244353; decide), ?_⟩⟩⟩
        refine ⟨_, rfl, _, _, rfl, rfl, _, rfl, ?_⟩
        cases decide ((1000000 : Int) < many) with
        | true => exact iteT ⟨_, rfl, _, _, rfl, rfl, .inr ⟨by decide, by decide⟩, _, rfl, _, _, rfl, rfl, .inl ⟨_, rfl, _, rfl, _, _, rfl, rfl, hm0, fin _ H1 k1 g1⟩⟩
        | false => exact iteF ⟨_, rfl, _, _, rfl, rfl, ⟨by decide, by decide⟩, .inl ⟨_, rfl, _, rfl, _, _, rfl, rfl, hm0, fin _ H1 k1 g1⟩⟩
end
end K17
set_option Elab.async false
set_option linter.all false
set_option maxRecDepth 100000
set_option maxHeartbeats 4000000
namespace K17
open PySem PySem.Spec PyProof.Rows L2 PpSet
/-! ### the law's names -/
def W20 : List Str := ["each", "call", "same", "unlike", "use", "kept", "show", "mark", "cell", "look", "ask", "told", "int", "key", "end", "item", "a", "b", "ab", "ba"]
abbrev txtW : Str := "each call same unlike use kept show mark cell look ask told int key end item a b ab ba"
abbrev txtL : Str := "abcdefghijklmnopqrstuvwxyz"
theorem w20 : Txt.split txtW " " = W20 := by decide +kernel
def LT : List Nat := txtL.cps.toList
theorem lt_len : LT.length = 26 := by decide +kernel
theorem lt_nd : LT.Nodup := by decide +kernel
theorem lt_low : ∀ c ∈ LT, c < 1114112 := by decide +kernel
theorem NameOk.txt {z : Str} (h : NameOk z) : PyData.strOk z = true := by
  unfold PyData.strOk
  rw [← Array.all_toList, List.all_eq_true]
  intro c hc
  exact decide_eq_true (lt_low c (h.sign c hc))
def nameB (z : Str) : Bool := decide (1 ≤ z.length) && decide (z.length ≤ 8) && z.cps.toList.all fun c => decide (c ∈ LT)
theorem nameB_ok {z : Str} (h : nameB z = true) : NameOk z := by
  unfold nameB at h
  rw [Bool.and_eq_true, Bool.and_eq_true, decide_eq_true_eq, decide_eq_true_eq, List.all_eq_true] at h
  exact ⟨h.1.1, h.1.2, fun c hc => of_decide_eq_true (h.2 c hc)⟩
def turned (t : Nat) : List Str := (W20.drop t ++ W20.take t).take 3
theorem turned_ok : ∀ t < 20, ((turned t).length = 3 ∧ (turned t).Nodup) ∧ (turned t).all nameB = true := by decide +kernel
abbrev signT (c : Nat) : Str := ⟨#[c]⟩
theorem joinL_one : ∀ cs : List Nat, TL.joinL [] ((cs.map signT).map TL.tl) = cs
  | [] => rfl
  | [c] => rfl
  | c :: d :: r => by
    have ih := joinL_one (d :: r)
    show [c] ++ ([] ++ TL.joinL [] (((d :: r).map signT).map TL.tl)) = _
    rw [ih]
    rfl
theorem tl_base (cs : List Nat) : TL.tl (Txt.join "" (cs.map signT)) = cs := by
  rw [TL.join_eq, TL.tl_join]
  exact joinL_one cs
def letterAt (t k : Nat) : Nat := LT.getD ((t + 3 * k) % 26) 0
/-- the names made of a base -/
def madeN (base : Str) (t k : Nat) : Str := base ++ signT (letterAt t k)
theorem letters_nd : ∀ t < 20, (letterAt t 0 ≠ letterAt t 1 ∧ letterAt t 0 ≠ letterAt t 2 ∧ letterAt t 1 ≠ letterAt t 2) ∧ ∀ k < 3, letterAt t k ∈ LT := by decide +kernel
theorem madeN_tl (base : Str) (t k : Nat) : TL.tl (madeN base t k) = TL.tl base ++ [letterAt t k] := by
  unfold madeN
  rw [TL.tl_append]
theorem made_ok {cs : List Nat} {t : Nat} (ht : t < 20) (hc : cs.length ≤ 7) (hl : ∀ c ∈ cs, c ∈ LT) (base : Str) (hb : TL.tl base = cs) :
    ((List.range 3).map (madeN base t)).length = 3 ∧ ((List.range 3).map (madeN base t)).Nodup ∧ ∀ n ∈ (List.range 3).map (madeN base t), NameOk n := by
  obtain ⟨nd, mem⟩ := letters_nd t ht
  have ne : ∀ i j, letterAt t i ≠ letterAt t j → madeN base t i ≠ madeN base t j := fun i j h e => by
    have e2 := congrArg TL.tl e
    rw [madeN_tl, madeN_tl] at e2
    have e3 := List.append_cancel_left e2
    injection e3 with e3 _
    exact h e3
  refine ⟨by simp, ?_, fun n hn => ?_⟩
  · show [madeN base t 0, madeN base t 1, madeN base t 2].Nodup
    have a := ne _ _ nd.1
    have b := ne _ _ nd.2.1
    have c := ne _ _ nd.2.2
    simp [a, b, c]
  · obtain ⟨k, hk, rfl⟩ := List.mem_map.mp hn
    have hk := List.mem_range.mp hk
    have hlen : (madeN base t k).length = cs.length + 1 := by
      rw [TL.len_tl, madeN_tl, hb, List.length_append]
      rfl
    refine ⟨by omega, by omega, fun c hc' => ?_⟩
    have hc' : c ∈ TL.tl (madeN base t k) := hc'
    rw [madeN_tl, hb] at hc'
    rcases List.mem_append.mp hc' with h | h
    · exact hl c h
    · rw [List.mem_singleton.mp h]
      exact mem k hk
theorem cut_take' {xs : List V} {j : Nat} (h : j ≤ xs.length) : cutV xs none (some (j : Int)) = xs.take j := cut_take xs j h
theorem cut_from {xs : List V} {j : Nat} (h : j ≤ xs.length) : cutV xs (some (j : Int)) none = xs.drop j := by
  unfold cutV
  rw [HT.sIx_none, HT.sIx_nat, Nat.min_eq_left h, List.take_of_length_le (by rw [List.length_drop]; exact Nat.le_refl _)]
section
variable {base : Heap} {mg : Str → Option Value} {K : PySem.W.Frag} {w : World} {P : Program}
abbrev teTake (t : TA) : TE := tCall spTake [] L2.E0 t
def rAddT : R2 := fun x y H Q => ∃ i j : Str, x = .str i ∧ y = .str j ∧ i.length + j.length ≤ sizeLine ∧ Q (.str (i ++ j)) H
def rModP : R2 := rI (fun _ m => 0 < m) fun i m => .int (i % m)
def rIntOf : List V → Hp → VK → Prop := fun xs H Q => (∃ i, xs = [.int i] ∧ Q (.int i) H) ∨ ∃ k, xs = [.bl k] ∧ Q (.int (if k then 1 else 0)) H
def spLabels : Sp := fun vs H Q _ => ∃ b c : Addr, vs = [.ref b, .int 3] ∧ Bag H b c ∧ ∀ (H' : Hp) (p : Addr) (ns : List Str), Keep b H H' → Bag H' b c → H p = none → p ≠ b → H' p = some (.lst (ns.map V.str)) → ns.length = 3 → ns.Nodup → (∀ n ∈ ns, NameOk n) → Q (.ref p) H'
theorem cal_labels (B : Bi mg) (D : DefAt K mg "_law_draw_labels" sLabels pLabels) (c : Cal P w K mg base 1 "_law_take" spTake) : Cal P w K mg base 2 "_law_draw_labels" spLabels := by
  refine D.cal (k := 1) scLabels (fun vs H Q E h => ?_) (fun cdv ff A outer s H vs Q E hr h => ?_)
  · obtain ⟨b, bc, rfl, _⟩ := h
    rfl
  · obtain ⟨b, bc, rfl, G, q⟩ := h
    refine ⟨_, pss_cons (ps_set (i := 2) scLabels.nd rfl (.inr rfl) pe_str)
      (pss_cons (ps_set (i := 3) scLabels.nd rfl (.inl rfl) pe_str)
      (pss_cons (ps_asg (pe_tup (pa_cons (pe_cl c hr (Nat.le_refl _) (by rfl) (pa_cons (pv 0) (pa_cons pe_int pa_nil))) (pa_cons (pe_cl c hr (Nat.le_refl _) (by rfl) (pa_cons (pv 0) (pa_cons pe_int pa_nil))) (pa_cons (pe_split (pv 3) pe_str) pa_nil))))
          (pg_tup rfl (pgs_cons (pg_name (i := 4) scLabels.nd rfl (.inl rfl)) (pgs_cons (pg_name (i := 5) scLabels.nd rfl (.inr rfl)) (pgs_cons (pg_name (i := 3) scLabels.nd rfl (.inl rfl)) pgs_nil)))))
      (pss_cons (ps_set (i := 6) scLabels.nd rfl (.inr rfl) (pe_join pe_str (pe_lc (own := [("_law_k", 7)]) (g := gName 7) (tt := tYes) (te := tOp rIxS (tVar 2) (teTake (tCons (tVar 0) (tCons (tC (.int 26)) tNil))))
          rfl scLabels.nd (pi_range1 (by rfl) B.range (pa_cons (pe_cl c hr (Nat.le_refl _) (by rfl) (pa_cons (pv 0) (pa_cons pe_int pa_nil))) pa_nil)) (blkOk_by (N := nLabels) (sc := defScope sLabels) (by decide +kernel))
          (fun _ _ _ _ _ => pg_name (i := 7) scLabels.nd rfl (Or.inl rfl)) (fun _ _ _ _ _ => pts_nil)
          (fun _ _ _ _ _ => pe_ix ix_str (pv 2) (pe_cl c hr (Nat.le_refl _) (by rfl) (pa_cons (pv 0) (pa_cons pe_int pa_nil))) (fun _ _ => rfl)))))
      (pss_cons (ps_if (pt_cmpR op_eq (pv 4) pe_int (nomark _))
          (pss_one (ps_ret (pe_slice sl_list (pe_op op_cat (pe_slice sl_list (pv 3) (po_some (pv 5)) po_none) (pe_slice sl_list (pv 3) po_none (po_some (pv 5)))) po_none (po_some (pv 1))))) pss_nil)
      (pss_one (ps_ret (pe_lc (own := [("_law_k", 7)]) (g := gName 7) (tt := tYes)
          (te := tOp rAddT (tVar 6) (tOp rIxS (tVar 2) (tOp rModP (tCB rIntOf (tCons (tOp (rI0 fun i j => .int (i + j)) (tVar 5) (tOp (rI CMul fun i j => .int (i * j)) (tC (.int 3)) (tVar 7))) tNil)) (tC (.int 26)))))
          rfl scLabels.nd (pi_range1 (by rfl) B.range (pa_cons (pv 1) pa_nil)) (blkOk_by (N := nLabels) (sc := defScope sLabels) (by decide +kernel))
          (fun _ _ _ _ _ => pg_name (i := 7) scLabels.nd rfl (Or.inl rfl)) (fun _ _ _ _ _ => pts_nil)
          (fun _ _ _ _ _ => pe_op op_add_str (pv 6) (pe_ix ix_str (pv 2) (pe_op op_mod (pe_callTy (T := "int") call_int1 (by rfl) B.int (by decide +kernel) (pa_cons (pe_op op_add (pv 5) (pe_op op_mul pe_int (pv 7))) pa_nil)) pe_int) (fun _ _ => rfl)))))))))), ?_⟩
    refine ⟨_, rfl, b, bc, 3, rfl, G, by decide, by decide, fun H1 way k1 g1 w0 w1 => ?_⟩
    refine ⟨_, rfl, b, bc, 20, rfl, g1, by decide, by decide, fun H2 turn k2 g2 t0 t1 => ?_⟩
    obtain ⟨t, rfl⟩ : ∃ t : Nat, turn = t := ⟨turn.toNat, by omega⟩
    have ht : t < 20 := by omega
    have k02 := k1.trans k2
    refine ⟨_, rfl, ⟨_, rfl⟩, _, _, rfl, rfl, by decide, Nat.le_of_lt (small1000 (by decide +kernel)), fun wp nwp => ?_⟩
    rw [w20]
    have nwb := g2.no nwp
    have nw0 : H wp = none := by
      cases e : H wp with
      | none => rfl
      | some o =>
        have := k02 _ _ nwb.1 e
        rw [nwp] at this
        cases this
    have k3 := k02.new (o := .lst (W20.map V.str)) nwp
    have g3 := g2.put (o := .lst (W20.map V.str)) nwb
    have e3 : (upd H2 wp (.lst (W20.map V.str))) wp = some (.lst (W20.map V.str)) := upd_same
    revert k3 g3 e3
    generalize upd H2 wp (.lst (W20.map V.str)) = H3
    intro k3 g3 e3
    refine ⟨by show 3 ≤ sizeLine; decide, fun tp ntp => ?_⟩
    refine ⟨tp, _, rfl, SqT.of upd_same, rfl, .int way, [.int (t : Int), .ref wp], rfl, .int (t : Int), [.ref wp], rfl, .ref wp, [], rfl, rfl, ?_⟩
    have k4 := k3.new (o := .tup [.int way, .int (t : Int), .ref wp]) ntp
    have g4 := g3.put (o := .tup [.int way, .int (t : Int), .ref wp]) (g3.no ntp)
    have e4 := keep1 (u := .tup [.int way, .int (t : Int), .ref wp]) e3 ntp
    revert k4 g4 e4
    generalize upd H3 tp (.tup [.int way, .int (t : Int), .ref wp]) = H4
    intro k4 g4 e4
    refine ⟨⟨_, rfl⟩, _, rfl, b, bc, 8, rfl, g4, by decide, by decide, fun H5 r k5 g5 r0 r1 => ?_⟩
    have k05 := k4.trans k5
    have e5 := k5 _ _ nwb.1 e4
    refine ⟨r, rfl, by omega, by omega, fun D nD => ?_⟩
    have nDb := g5.no nD
    have nDw : wp ≠ D := fun z => by
      rw [z, nD] at e5
      cases e5
    refine lc_it (walk_range (lo := 0) (n := r.toNat)) (fun i H' => Keep b H H' ∧ Bag H' b bc ∧ H' wp = some (.lst (W20.map V.str)) ∧ ∃ cs : List Nat, cs.length = i ∧ (∀ x ∈ cs, x ∈ LT) ∧ H' D = some (.lst ((cs.map signT).map V.str)))
      ⟨k05.new nD, g5.put nDb, keep1 e5 nD, [], rfl, (fun x hx => nomatch hx), upd_same⟩ (fun _ _ _ _ => trivial) ?_ ?_
    · rintro i y H6' H6 hi ⟨k6, g6, e6, cs, hcl, hcm, eD⟩ ⟨rfl, rfl⟩
      refine ⟨rfl, _, rfl, _, rfl, b, bc, 26, rfl, g6, by decide, by decide, fun H7 l k7 g7 l0 l1 => ?_⟩
      obtain ⟨n, rfl⟩ : ∃ n : Nat, l = n := ⟨l.toNat, by omega⟩
      have hn : n < LT.length := by rw [lt_len]; omega
      have eD7 := k7 _ _ nDb.1 eD
      refine ⟨txtL, _, LT[n], rfl, rfl, by show 26 ≤ sizeLine; decide, atI_nat (List.getElem?_eq_getElem hn), _, eD7, ?_, ?_⟩
      · rw [List.length_map, List.length_map]
        exact small1000 (by omega)
      · refine ⟨k05.putF nD (k6.trans k7), g7.put nDb, (upd_ne nDw).trans (k7 _ _ nwb.1 e6), cs ++ [LT[n]], by rw [List.length_append, hcl]; rfl, fun x hx => ?_, ?_⟩
        · rcases List.mem_append.mp hx with z | z
          · exact hcm x z
          · rw [List.mem_singleton.mp z]
            exact List.getElem_mem hn
        · rw [upd_same, List.map_append, List.map_append]
          rfl
    rintro H6 ⟨k6, g6, e6, cs, hcl, hcm, eD⟩
    refine ⟨"", D, cs.map signT, rfl, rfl, .inl (SqL.of eD), ?_, ?_⟩
    · have e1 : ((cs.map signT).map (·.length)).sum = cs.length := by
        rw [List.map_map]
        have : (fun c => (signT c).length) = fun _ : Nat => 1 := rfl
        show (cs.map fun c => (signT c).length).sum = _
        rw [this, List.map_const', List.sum_replicate_nat]
        omega
      have e2 : ("" : Str).length = 0 := rfl
      rw [e1, e2]
      omega
    have hb := tl_base cs
    revert hb
    show _ → tSeq _ _ _ [some (V.ref b), some (.int 3), some (.str txtL), some (.ref wp), some (.int way), some (.int (t : Int)), some (.str (Txt.join "" (cs.map signT))), none] H6
    generalize Txt.join "" (cs.map signT) = bs
    intro hb
    have hcl7 : cs.length ≤ 7 := by omega
    refine ⟨_, rfl, rfl, _, rfl, ?_⟩
    cases decide (V.int way = V.int 0) with
    | true =>
      obtain ⟨⟨f1, f2⟩, f3⟩ := turned_ok t ht
      refine iteT ⟨_, rfl, _, rfl, _, rfl, wp, _, rfl, SqL.of e6, fun p1 n1 => ?_⟩
      have hw : t ≤ (W20.map V.str).length := by
        show t ≤ 20
        omega
      rw [cut_from hw]
      have k7 := k6.new (o := .lst ((W20.map V.str).drop t)) n1
      have g7 := g6.put (o := .lst ((W20.map V.str).drop t)) (g6.no n1)
      have e7 := keep1 (u := .lst ((W20.map V.str).drop t)) e6 n1
      refine ⟨_, rfl, _, rfl, _, rfl, wp, _, rfl, SqL.of e7, fun p2 n2 => ?_⟩
      rw [cut_take' hw]
      have k8 := k7.new (o := .lst ((W20.map V.str).take t)) n2
      have g8 := g7.put (o := .lst ((W20.map V.str).take t)) (g7.no n2)
      refine ⟨p1, p2, _, _, rfl, rfl, keep1 upd_same n2, upd_same, ?_, fun p3 n3 => ?_⟩
      · rw [List.length_drop, List.length_take]
        exact Nat.le_of_lt (small1000 (by show 20 - t + min t 20 ≤ 1000; omega))
      have k9 := k8.new (o := .lst ((W20.map V.str).drop t ++ (W20.map V.str).take t)) n3
      have g9 := g8.put (o := .lst ((W20.map V.str).drop t ++ (W20.map V.str).take t)) (g8.no n3)
      refine ⟨_, rfl, 3, rfl, p3, _, rfl, SqL.of upd_same, fun p4 n4 => ?_⟩
      have el : cutV ((W20.map V.str).drop t ++ (W20.map V.str).take t) none (some 3) = (turned t).map V.str := by
        have h3 : 3 ≤ ((W20.map V.str).drop t ++ (W20.map V.str).take t).length := by
          rw [List.length_append, List.length_drop, List.length_take]
          show 3 ≤ 20 - t + min t 20
          omega
        have := cut_take' h3
        rw [show ((3 : Nat) : Int) = 3 from rfl] at this
        rw [this]
        unfold turned
        rw [List.map_take, List.map_append, List.map_drop, List.map_take]
      rw [el]
      have ng := g9.no n4
      refine q _ p4 (turned t) (k9.new n4) (g9.put ng) ?_ ng.1 upd_same f1 f2 fun n hn => nameB_ok (List.all_eq_true.mp f3 n hn)
      cases e : H p4 with
      | none => rfl
      | some o =>
        have := k9 _ _ ng.1 e
        rw [n4] at this
        cases this
    | false =>
      refine iteF ⟨_, rfl, 3, rfl, by decide, by decide, fun D2 nD2 => ?_⟩
      have ng := g6.no nD2
      refine lc_it (walk_range (lo := 0) (n := (3 : Int).toNat)) (fun i H' => Keep b H H' ∧ Bag H' b bc ∧ H' D2 = some (.lst (((List.range i).map (madeN bs t)).map V.str))) ⟨k6.new nD2, g6.put ng, upd_same⟩ (fun _ _ _ _ => trivial) ?_ ?_
      · rintro i y H7' H7 hi ⟨k7, g7, e7⟩ ⟨rfl, rfl⟩
        have hi3 : i < 3 := hi
        have hlt : (t + 3 * i) % 26 < LT.length := by
          rw [lt_len]
          exact Nat.mod_lt _ (by decide)
        refine ⟨rfl, _, rfl, _, rfl, _, rfl, _, rfl, _, _, rfl, rfl, .inl ⟨by decide, by decide⟩, _, _, rfl, rfl, .inl ⟨_, rfl, _, _, rfl, rfl, (by show (0 : Int) < 26; decide), ?_⟩⟩
        have eI : ((t : Int) + 3 * (0 + (i : Int))) % 26 = (((t + 3 * i) % 26 : Nat) : Int) := by omega
        refine ⟨txtL, _, LT[(t + 3 * i) % 26], rfl, rfl, by show 26 ≤ sizeLine; decide, ?_, bs, _, rfl, rfl, ?_, _, e7, ?_, ?_⟩
        · rw [eI]
          exact atI_nat (List.getElem?_eq_getElem hlt)
        · have e1 : bs.length = cs.length := by rw [TL.len_tl, hb]
          rw [e1]
          have e2 : (signT LT[(t + 3 * i) % 26]).length = 1 := rfl
          show _ + (signT LT[(t + 3 * i) % 26]).length ≤ _
          rw [e2]
          exact small1000 (by omega)
        · rw [List.length_map, List.length_map, List.length_range]
          exact small1000 (by omega)
        · refine ⟨k6.putF nD2 k7, g7.put ng, ?_⟩
          rw [upd_same, List.range_succ, List.map_append, List.map_append]
          have em : madeN bs t i = bs ++ signT LT[(t + 3 * i) % 26] := by
            unfold madeN letterAt
            rw [List.getD_eq_getElem?_getD, List.getElem?_eq_getElem hlt]
            rfl
          show _ = some (HO.lst (_ ++ [V.str (madeN bs t i)]))
          rw [em]
      · rintro H7 ⟨k7, g7, e7⟩
        obtain ⟨f1, f2, f3⟩ := made_ok ht hcl7 hcm bs hb
        refine q H7 D2 _ k7 g7 ?_ ng.1 e7 f1 f2 f3
        cases e : H D2 with
        | none => rfl
        | some o =>
          have := k6 _ _ ng.1 e
          rw [nD2] at this
          cases this
end
end K17
set_option Elab.async false
set_option linter.all false
set_option maxRecDepth 100000
set_option maxHeartbeats 4000000
namespace K17
open PySem PySem.Spec PyProof.Rows L2 PpSet
/-! ### the law's functions and asks -/
def KeepT (H H' : Hp) : Prop := ∀ p xs, H p = some (.tup xs) → H' p = some (.tup xs)
theorem KeepT.of {b : Addr} {H H' : Hp} {ys : List V} (k : Keep b H H') (hb : H b = some (.lst ys)) : KeepT H H' := fun p xs e => k p _ (ne_of e hb (by intro z; cases z)) e
theorem KeepT.put {l : Addr} {H : Hp} {o : HO} {ys : List V} (hl : H l = some (.lst ys)) : KeepT H (upd H l o) := fun p xs e => (upd_ne (ne_of e hl (by intro z; cases z))).trans e
theorem KeepT.trans {H1 H2 H3 : Hp} (a : KeepT H1 H2) (b : KeepT H2 H3) : KeepT H1 H3 := fun p xs e => b p xs (a p xs e)
theorem AskO.kt {H H' : Hp} {t : Addr} {k : Ask} (s : KeepT H H') (h : AskO H t k) : AskO H' t k := by
  obtain ⟨a, h1, h2⟩ := h
  exact ⟨a, s _ _ h1, s _ _ h2⟩
theorem Fns.kb {b d : Addr} {H H' : Hp} {ys : List V} {fs : List Fn} (k : Keep b H H') (hb : H b = some (.lst ys)) (X : Fns H d fs) : Fns H' d fs :=
  ⟨k _ _ (ne_of X.dk hb (by intro z; cases z)) X.dk, fun f hf => k _ _ (ne_of (X.at_ f hf) hb (by intro z; cases z)) (X.at_ f hf)⟩
theorem Keep.unmade {b p : Addr} {H H' : Hp} (k : Keep b H H') (nb : p ≠ b) (n : H' p = none) : H p = none := by
  cases e : H p with
  | none => rfl
  | some o =>
    have := k _ _ nb e
    rw [n] at this
    cases this
theorem Keep.putN {b p : Addr} {H H' : Hp} {o : HO} (k : Keep b H H') (n : H p = none) : Keep b H (upd H' p o) := fun a u nb e => by
  have ne : a ≠ p := fun z => by
    rw [z, n] at e
    cases e
  exact (upd_ne ne).trans (k a u nb e)
theorem Hist.kb {b h : Addr} {H H' : Hp} {ts : List Addr} {ks : List Ask} {ys : List V} (k : Keep b H H') (hb : H b = some (.lst ys)) (nb : h ≠ b) (X : Hist H h ts ks) : Hist H' h ts ks :=
  ⟨k _ _ nb X.ls, X.len, fun i t q a c => (X.at_ i t q a c).kt (KeepT.of k hb), X.txt, X.few⟩
theorem third {m : Nat} (h : m < 3) (a b c : Int) : ∃ v, [V.int a, V.int b, V.int c][m]? = some (.int v) := by
  match m, h with
  | 0, _ => exact ⟨a, rfl⟩
  | 1, _ => exact ⟨b, rfl⟩
  | 2, _ => exact ⟨c, rfl⟩
section
variable {base : Heap} {mg : Str → Option Value} {K : PySem.W.Frag} {w : World} {P : Program}
/-- what is drawn so far -/
structure Drawn1 (fs : List Fn) (ks : List Ask) (now : Int) : Prop where
  ask : ∀ k ∈ ks, 0 ≤ k.st ∧ k.st ≤ now ∧ ∃ f ∈ fs, f.nm = k.fn ∧ k.args.length = f.many
  asc : ∀ (i : Nat) (a b : Ask), ks[i]? = some a → ks[i + 1]? = some b → a.st ≤ b.st
  low : 0 ≤ now
theorem Drawn1.more {fs : List Fn} {ks : List Ask} {now now' : Int} {f : Fn} {args : List Int} {v : Int} (h : Drawn1 fs ks now) (hf : f ∈ fs) (ha : args.length = f.many) (hn : now ≤ now') : Drawn1 fs (ks ++ [⟨now, f.nm, args, v⟩]) now' := by
  refine ⟨fun k hk => ?_, fun i a b ha' hb' => ?_, Int.le_trans h.low hn⟩
  · rcases List.mem_append.mp hk with z | z
    · obtain ⟨h1, h2, h3⟩ := h.ask k z
      exact ⟨h1, Int.le_trans h2 hn, h3⟩
    · rw [List.mem_singleton.mp z]
      exact ⟨h.low, hn, f, hf, rfl, ha⟩
  · have hl := (List.getElem?_eq_some_iff.mp hb').1
    rw [List.length_append] at hl
    have hl : i + 1 < ks.length + 1 := hl
    rw [List.getElem?_append_left (by omega)] at ha'
    by_cases e : i + 1 < ks.length
    · rw [List.getElem?_append_left e] at hb'
      exact h.asc i a b ha' hb'
    · rw [List.getElem?_append_right (by omega), show i + 1 - ks.length = 0 by omega] at hb'
      cases hb'
      exact (h.ask a (List.mem_of_getElem? ha')).2.1
def spAsks : Sp := fun vs H Q _ => ∃ (b bc d : Addr) (fs : List Fn), vs = [.ref b, .ref d, .int 40] ∧ Bag H b bc ∧ Fns H d fs ∧ (fs.map (·.nm)).Nodup ∧ (∀ f ∈ fs, FnGood f) ∧ 1 ≤ fs.length ∧ fs.length ≤ 6 ∧
  ∀ H' h ts ks, Keep b H H' → Bag H' b bc → H h = none → h ≠ b → Hist H' h ts ks → Right fs ks → Q (.ref h) H'
theorem cal_asks (B : Bi mg) (D : DefAt K mg "_law_asks" sAsks pAsks) (c : Cal P w K mg base 1 "_law_take" spTake) : Cal P w K mg base 2 "_law_asks" spAsks := by
  refine D.cal (k := 1) scAsks (fun vs H Q E h => ?_) (fun cdv ff A outer s H vs Q E hr h => ?_)
  · obtain ⟨b, bc, d, fs, rfl, _⟩ := h
    rfl
  · obtain ⟨b, bc, d, fs, rfl, G, X, nd, good, low, few, q⟩ := h
    have hu := hu_of hr
    refine ⟨_, pss_cons (ps_par3 (i := 3) (j := 4) (l := 5) rfl scAsks.nd rfl rfl rfl (by decide) (by decide) (by decide) rfl rfl rfl
        (pa_cons (pe_callB (call_sortedD rfl) (by rfl) B.sorted (by decide +kernel) (pa_cons (pv 1) pa_nil)) (pa_cons (pe_lst pa_nil) (pa_cons (pe_cl c hr (Nat.le_refl _) (by rfl) (pa_cons (pv 0) (pa_cons pe_int pa_nil))) pa_nil))) (by rfl))
      (pss_cons (ps_for PassesOwn.never rfl (pi_range1 (by rfl) B.range (pa_cons (pe_op op_add pe_int (pe_cl c hr (Nat.le_refl _) (by rfl) (pa_cons (pv 0) (pa_cons (pv 2) pa_nil)))) pa_nil)) (pg_name (i := 6) scAsks.nd rfl (.inl rfl))
        (pss_cons (ps_set (i := 7) scAsks.nd rfl (.inl rfl) (pe_ix ix_list (pv 3) (pe_cl c hr (Nat.le_refl _) (by rfl) (pa_cons (pv 0) (pa_cons (pe_callB call_len_seq (by rfl) B.len PySem.boot_len (pa_cons (pv 3) pa_nil)) pa_nil))) (fun _ _ => rfl)))
        (pss_cons (ps_set (i := 8) scAsks.nd rfl (.inl rfl) (pe_callTy call_tuple_of (by rfl) B.tuple (by decide +kernel) (pa_cons
          (pe_lc (own := [("_law_one", 9)]) (g := gName 9) (tt := tYes) (te := teTake (tCons (tVar 0) (tCons (tC (.int 2)) tNil))) rfl scAsks.nd
            (pi_range1 (by rfl) B.range (pa_cons (pe_ix ix_tup (pe_dget hu (pv 1) (pv 7) (fun _ _ => rfl)) pe_int (fun _ _ => rfl)) pa_nil)) (blkOk_by (N := nAsks) (sc := defScope sAsks) (by decide +kernel))
            (fun _ _ _ _ _ => pg_name (i := 9) scAsks.nd rfl (Or.inl rfl)) (fun _ _ _ _ _ => pts_nil)
            (fun _ _ _ _ _ => pe_cl c hr (Nat.le_refl _) (by rfl) (pa_cons (pv 0) (pa_cons pe_int pa_nil)))) pa_nil)))
        (pss_cons (ps_expr (pe_bm PySem.F.plainAttrs_list PySem.F.slot_list_append PySem.F.type_list_append mt_append (pv 4) (pa_cons
          (pe_tup (pa_cons (pv 5) (pa_cons (pv 7) (pa_cons (pv 8) (pa_cons
            (pe_ix ix_list (pe_lst (pa_cons (pe_cl c hr (Nat.le_refl _) (by rfl) (pa_cons (pv 0) (pa_cons pe_int pa_nil))) (pa_cons (pe_op op_pow pe_int pe_int) (pa_cons (pe_un un_neg pe_int) pa_nil))))
              (pe_op op_fdiv (pe_cl c hr (Nat.le_refl _) (by rfl) (pa_cons (pv 0) (pa_cons pe_int pa_nil))) pe_int) (fun _ _ => rfl)) pa_nil))))) pa_nil)))
        (pss_one (ps_set (i := 5) scAsks.nd rfl (.inl rfl) (pe_op op_add (pv 5) (pe_op op_mul (pe_op op_fdiv (pe_cl c hr (Nat.le_refl _) (by rfl) (pa_cons (pv 0) (pa_cons pe_int pa_nil))) pe_int)
          (pe_op op_add pe_int (pe_cl c hr (Nat.le_refl _) (by rfl) (pa_cons (pv 0) (pa_cons pe_int pa_nil))))))))))))
      (pss_one (ps_ret (pv 4)))), ?_⟩
    refine ⟨_, rfl, d, _, fs.map (·.nm), rfl, .inl X.dk, by rw [List.map_map, List.map_map]; rfl, by rw [List.length_map]; omega, fun ys nl pm _ nn => ?_⟩
    have leny : ys.length = fs.length := by rw [pm.length_eq, List.length_map]
    have nnb := G.no nn
    have s1 := sm_new (o := .lst (ys.map V.str)) (.refl H) nn
    have e1 : (upd H nl (.lst (ys.map V.str))) nl = some (.lst (ys.map V.str)) := upd_same
    have g1 := G.put (o := .lst (ys.map V.str)) nnb
    refine ⟨by show 0 ≤ sizeLine; decide, fun l nl' => ?_⟩
    have nlb := g1.no nl'
    have n0l : H l = none := s1.free nl'
    have s2 := sm_new (o := .lst []) s1 nl'
    have e2 := keep1 (u := .lst []) e1 nl'
    have el2 : (upd (upd H nl (.lst (ys.map V.str))) l (.lst [])) l = some (.lst []) := upd_same
    have g2 := g1.put (o := .lst []) nlb
    have nln : l ≠ nl := fun z => by
      rw [z, e1] at nl'
      cases nl'
    revert s2 e2 el2 g2
    generalize upd (upd H nl (.lst (ys.map V.str))) l (.lst []) = H2
    intro s2 e2 el2 g2
    refine ⟨_, rfl, b, bc, 3, rfl, g2, by decide, by decide, fun H3 st k3 g3 st0 st1 => ⟨_, _, _, rfl, ?_⟩⟩
    have k03 := (Keep.of s2).trans k3
    refine ⟨_, rfl, _, rfl, b, bc, 40, rfl, g3, by decide, by decide, fun H4 r k4 g4 r0 r1 => ⟨_, _, rfl, rfl, _, rfl, by omega, by omega, ?_⟩⟩
    obtain ⟨m, rfl⟩ : ∃ m : Nat, r = m := ⟨r.toNat, by omega⟩
    have k04 := k03.trans k4
    have e4 := k4 _ _ nnb.1 (k3 _ _ nnb.1 e2)
    have el4 := k4 _ _ nlb.1 (k3 _ _ nlb.1 el2)
    have hm : (1 + (m : Int)).toNat = m + 1 := by omega
    rw [hm]
    refine for_it (walk_range (lo := 0) (n := m + 1)) (fun i σ H' => ∃ (now : Int) (x6 x7 x8 : Option V) (ts : List Addr) (ks : List Ask), σ = [some (.ref b), some (.ref d), some (.int 40), some (.ref nl), some (.ref l), some (.int now), x6, x7, x8, none] ∧ Keep b H H' ∧ Bag H' b bc ∧
        H' nl = some (.lst (ys.map V.str)) ∧ Hist H' l ts ks ∧ ks.length = i ∧ Drawn1 fs ks now)
      ⟨st, none, none, none, [], [], rfl, k04, g4, e4, ⟨el4, rfl, (fun i t k h _ => by simp at h), (fun k hk => nomatch hk), Nat.zero_le _⟩, rfl, ⟨(fun k hk => nomatch hk), (fun i a b h _ => by simp at h), st0⟩⟩ (fun _ _ _ _ _ => trivial) ?_ ?_
    · rintro i y σ H5' H5 hi ⟨now, x6, x7, x8, ts, ks, rfl, k5, g5, e5, X5, lk, dr⟩ ⟨rfl, rfl⟩
      obtain ⟨bs0, hb0⟩ := G.ls
      obtain ⟨bs5, hb5⟩ := g5.ls
      -- the name
      refine ⟨_, rfl, _, rfl, _, rfl, nl, _, rfl, .inl (SqL.of e5), b, bc, _, rfl, g5, ?_, ?_, fun H6 n k6 g6 n0 n1 => ?_⟩
      · rw [List.length_map]
        omega
      · rw [List.length_map]
        omega
      obtain ⟨n, rfl⟩ : ∃ k : Nat, n = k := ⟨n.toNat, by omega⟩
      rw [List.length_map] at n1
      have hn : n < ys.length := by omega
      obtain ⟨f, hf, hfn⟩ := List.mem_map.mp (pm.mem_iff.mp (List.getElem_mem hn))
      refine ⟨nl, _, n, .str f.nm, rfl, rfl, SqL.of (k6 _ _ nnb.1 e5), atI_nat (by rw [List.getElem?_map, List.getElem?_eq_getElem hn]; exact congrArg (fun z => some (V.str z)) hfn.symm), ?_⟩
      have k06 := k5.trans k6
      have X6 := X.kb k06 hb0
      have H6l := X5.kb k6 hb5 nlb.1
      -- its arguments
      have v := DGet.k (k := Sum.inr f.nm) X6.dk
      rw [fn_val nd hf] at v
      refine ⟨_, rfl, _, rfl, d, _, rfl, v, f.at_, _, 0, .int (f.many : Nat), rfl, rfl, SqT.of (X6.at_ f hf), rfl, _, rfl, by omega, by have := (good f hf).many; omega, fun D nD => ?_⟩
      have nDb := g6.no nD
      have hfm : ((f.many : Nat) : Int).toNat = f.many := by omega
      rw [hfm]
      refine lc_it (walk_range (lo := 0) (n := f.many)) (fun j H' => Keep b H6 H' ∧ Bag H' b bc ∧ ∃ as : List Int, as.length = j ∧ H' D = some (.lst (as.map V.int))) ⟨(Keep.of (.refl H6)).new nD, g6.put nDb, [], rfl, upd_same⟩ (fun _ _ _ _ => trivial) ?_ ?_
      · rintro j y H7' H7 hj ⟨k7, g7, as, la, eD⟩ ⟨rfl, rfl⟩
        refine ⟨rfl, _, rfl, b, bc, 2, rfl, g7, by decide, by decide, fun H8 r k8 g8 r0' r1' => ⟨_, k8 _ _ nDb.1 eD, ?_, (k7.trans k8).putN nD, g8.put nDb, as ++ [r], by rw [List.length_append, la]; rfl, ?_⟩⟩
        · rw [List.length_map]
          have := (good f hf).many
          exact small1000 (by omega)
        · rw [upd_same, List.map_append]
          rfl
      rintro H7 ⟨k7, g7, as, la, eD⟩
      refine ⟨D, _, rfl, .inl ⟨SqL.of eD, fun ra nra => ?_⟩⟩
      have k68 : Keep b H6 (upd H7 ra (.tup (as.map V.int))) := k7.new nra
      have g8 := g7.put (o := .tup (as.map V.int)) (g7.no nra)
      have era : (upd H7 ra (.tup (as.map V.int))) ra = some (.tup (as.map V.int)) := upd_same
      have nrb := (g7.no nra).1
      revert k68 g8 era
      generalize upd H7 ra (.tup (as.map V.int)) = H8
      intro k68 g8 era
      obtain ⟨bs6, hb6⟩ := g6.ls
      have H8l := H6l.kb k68 hb6 nlb.1
      -- the ask
      refine ⟨_, rfl, .inl ⟨rfl, _, SqL.of H8l.ls⟩, _, rfl, _, rfl, _, rfl, _, rfl, b, bc, 3, rfl, g8, by decide, by decide, fun H9 r3 k9 g9 r30 r31 => ?_⟩
      refine ⟨_, _, rfl, rfl, ⟨by decide, by decide, by decide⟩, 4, rfl, by show 3 ≤ sizeLine; decide, fun lp nlp => ?_⟩
      have nlpb := g9.no nlp
      have k10 := k9.new (o := .lst [V.int r3, V.int (10 ^ (30 : Int).toNat), V.int (-4)]) nlp
      have g10 := g9.put (o := .lst [V.int r3, V.int (10 ^ (30 : Int).toNat), V.int (-4)]) nlpb
      refine ⟨_, rfl, b, bc, 7, rfl, g10, by decide, by decide, fun H11 r7 k11 g11 r70 r71 => ⟨_, _, rfl, rfl, ⟨by decide, by decide⟩, ?_⟩⟩
      obtain ⟨m3, hm3⟩ : ∃ m3 : Nat, r7 / 3 = m3 := ⟨(r7 / 3).toNat, by omega⟩
      obtain ⟨vv, hvv⟩ := third (m := m3) (by omega) r3 (10 ^ (30 : Int).toNat) (-4)
      refine ⟨lp, _, (r7 / 3 : Int), .int vv, rfl, rfl, SqL.of (k11 _ _ nlpb.1 upd_same), by rw [hm3]; exact atI_nat hvv, ?_⟩
      have k811 := k10.trans k11
      refine ⟨by show 4 ≤ sizeLine; decide, fun tp ntp => ?_⟩
      have ntb := g11.no ntp
      have k12 := k811.new (o := .tup [V.int now, V.str f.nm, V.ref ra, V.int vv]) ntp
      have g12 := g11.put (o := .tup [V.int now, V.str f.nm, V.ref ra, V.int vv]) ntb
      have etp : (upd H11 tp (.tup [V.int now, V.str f.nm, V.ref ra, V.int vv])) tp = some (.tup [V.int now, V.str f.nm, V.ref ra, V.int vv]) := upd_same
      revert k12 g12 etp
      generalize upd H11 tp (.tup [V.int now, V.str f.nm, V.ref ra, V.int vv]) = H12
      intro k12 g12 etp
      obtain ⟨bs8, hb8⟩ := g8.ls
      have H12l := H8l.kb k12 hb8 nlb.1
      have era12 := k12 _ _ nrb era
      refine ⟨l, _, _, rfl, rfl, H12l.ls, ?_, ?_⟩
      · rw [List.length_map, H12l.len]
        exact small1000 (by omega)
      have k012 : Keep b H H12 := (k06.trans k68).trans k12
      have k013 : Keep b H (upd H12 l (.lst (ts.map V.ref ++ [V.ref tp]))) := k012.putN n0l
      have g13 := g12.put (o := .lst (ts.map V.ref ++ [V.ref tp])) nlb
      have kt := KeepT.put (o := .lst (ts.map V.ref ++ [V.ref tp])) H12l.ls
      have hi40 : i < 40 := by omega
      have e13 : (upd H12 l (.lst (ts.map V.ref ++ [V.ref tp]))) nl = some (.lst (ys.map V.str)) := (upd_ne nln.symm).trans (k12 _ _ nnb.1 (k68 _ _ nnb.1 (k6 _ _ nnb.1 e5)))
      have X13 : Hist (upd H12 l (.lst (ts.map V.ref ++ [V.ref tp]))) l (ts ++ [tp]) (ks ++ [⟨now, f.nm, as, vv⟩]) := by
        refine ⟨?_, ?_, fun j t k ht hk => ?_, fun k hk => ?_, ?_⟩
        · rw [upd_same, List.map_append]
          rfl
        · rw [List.length_append, List.length_append, H12l.len]
          rfl
        · by_cases hj : j < ts.length
          · rw [List.getElem?_append_left hj] at ht
            rw [List.getElem?_append_left (by rw [← H12l.len]; exact hj)] at hk
            exact (H12l.at_ j t k ht hk).kt kt
          · have hj' : j = ts.length := by
              have := (List.getElem?_eq_some_iff.mp ht).1
              rw [List.length_append] at this
              have : j < ts.length + 1 := this
              omega
            subst hj'
            rw [List.getElem?_append_right (Nat.le_refl _), Nat.sub_self] at ht
            rw [H12l.len, List.getElem?_append_right (Nat.le_refl _), Nat.sub_self] at hk
            cases ht
            cases hk
            exact ⟨ra, kt _ _ etp, kt _ _ era12⟩
        · rcases List.mem_append.mp hk with z | z
          · exact H12l.txt k z
          · rw [List.mem_singleton.mp z]
            exact (good f hf).nm.txt
        · rw [List.length_append]
          show ks.length + 1 ≤ 40
          omega
      show Ends.nx _ _ (upd H12 l (.lst (ts.map V.ref ++ [V.ref tp])))
      revert k013 g13 e13 X13
      generalize upd H12 l (.lst (ts.map V.ref ++ [V.ref tp])) = H13
      intro k013 g13 e13 X13
      obtain ⟨bs13, hb13⟩ := g13.ls
      -- the statement of the next
      refine ⟨_, rfl, _, rfl, b, bc, 4, rfl, g13, by decide, by decide, fun H14 r4 k14 g14 r40 r41 => ⟨_, _, rfl, rfl, ⟨by decide, by decide⟩, ?_⟩⟩
      refine ⟨_, rfl, b, bc, 2, rfl, g14, by decide, by decide, fun H15 r2 k15 g15 r20 r21 => ⟨_, _, rfl, rfl, _, _, rfl, rfl, .inl ⟨by omega, by omega⟩, _, _, rfl, rfl, ?_⟩⟩
      have k1315 := k14.trans k15
      have hle : now ≤ now + r4 / 3 * (1 + r2) := by
        have : 0 ≤ r4 / 3 * (1 + r2) := Int.mul_nonneg (by omega) (by omega)
        omega
      refine ⟨_, _, _, _, _, _, rfl, k013.trans k1315, g15, k1315 _ _ nnb.1 e13, X13.kb k1315 hb13 nlb.1, ?_, dr.more hf la hle⟩
      rw [List.length_append, lk]
      rfl
    · rintro σ H5 ⟨now, x6, x7, x8, ts, ks, rfl, k5, g5, e5, X5, lk, dr⟩
      refine ⟨_, rfl, q H5 l ts ks k5 g5 n0l nlb.1 X5 ⟨by omega, fun k hk => ?_, dr.asc⟩⟩
      obtain ⟨h1, h2, h3⟩ := dr.ask k hk
      exact ⟨h1, h3⟩
end
end K17
set_option Elab.async false
set_option linter.all false
set_option maxRecDepth 100000
set_option maxHeartbeats 4000000
namespace K17
open PySem PySem.Spec PyProof.Rows L2 PpSet
/-! ### the law's functions, drawn -/
theorem four {m : Nat} (h : m < 4) : ∃ z, KN[m]? = some z ∧ z ∈ KN := by
  match m, h with
  | 0, _ => exact ⟨_, rfl, by simp⟩
  | 1, _ => exact ⟨_, rfl, by simp⟩
  | 2, _ => exact ⟨_, rfl, by simp⟩
  | 3, _ => exact ⟨_, rfl, by simp⟩
theorem span4 {m : Nat} (h : m < 4) : ∃ v, [V.str "never", V.str "statement", V.str "ever", V.non][m]? = some v ∧ (v = .non ∨ ∃ z, v = .str z) := by
  match m, h with
  | 0, _ => exact ⟨_, rfl, .inr ⟨_, rfl⟩⟩
  | 1, _ => exact ⟨_, rfl, .inr ⟨_, rfl⟩⟩
  | 2, _ => exact ⟨_, rfl, .inr ⟨_, rfl⟩⟩
  | 3, _ => exact ⟨_, rfl, .inl rfl⟩
section
variable {base : Heap} {mg : Str → Option Value} {K : PySem.W.Frag} {w : World} {P : Program}
def spDrawn (C : Addr) : Sp := fun vs H Q _ => ∃ (b bc : Addr), vs = [.ref b] ∧ Bag H b bc ∧
  ∀ H' tp d x kp fs, Keep b H H' → Bag H' b bc → H' tp = some (.tup [.ref d, .ref x, .ref kp]) → Fns H' d fs → Sch C H' x fs → 1 ≤ fs.length → Q (.ref tp) H'
theorem cal_drawn {C f e1 e2 : Addr} {fd : FuncData} (B : Bi mg) (D : DefAt K mg "_law_drawn" sDrawn pDrawn) (M : MakAt K mg C f fd e1 e2) (FI : FnOk P w K mg base CX0 4 f fd pInit (spInit K C))
    (c : Cal P w K mg base 1 "_law_take" spTake) (cl : Cal P w K mg base 2 "_law_draw_labels" spLabels) : Cal P w K mg base 6 "_law_drawn" (spDrawn C) := by
  obtain ⟨ds0, hds, hbd⟩ := mk_binds M
  refine D.cal (k := 5) scDrawn (fun vs H Q E h => ?_) (fun cdv ff A outer s H vs Q E hr h => ?_)
  · obtain ⟨b, bc, rfl, _⟩ := h
    rfl
  · obtain ⟨b, bc, rfl, G, q⟩ := h
    have hu := hu_of hr
    refine ⟨_, pss_cons (ps_asg (pe_tup (pa_cons (pe_cl cl hr (by decide) (by rfl) (pa_cons (pv 0) (pa_cons pe_int pa_nil))) (pa_cons (pe_lst (pa_cons pe_str (pa_cons pe_str (pa_cons pe_str (pa_cons pe_str pa_nil))))) (pa_cons pe_dnewK (pa_cons pe_dnewK pa_nil)))))
        (pg_tup rfl (pgs_cons (pg_name (i := 1) scDrawn.nd rfl (.inl rfl)) (pgs_cons (pg_name (i := 2) scDrawn.nd rfl (.inl rfl)) (pgs_cons (pg_name (i := 3) scDrawn.nd rfl (.inl rfl)) (pgs_cons (pg_name (i := 4) scDrawn.nd rfl (.inl rfl)) pgs_nil))))))
      (pss_cons (ps_for PassesOwn.never rfl (pi_list (pe_slice sl_list (pv 1) po_none (po_some (pe_op op_add pe_int (pe_cl c hr (by decide) (by rfl) (pa_cons (pv 0) (pa_cons pe_int pa_nil))))))) (pg_name (i := 5) scDrawn.nd rfl (.inl rfl))
        (pss_cons (ps_dput hu (pv 3) (pv 5) (pe_tup (pa_cons (pe_cl c hr (by decide) (by rfl) (pa_cons (pv 0) (pa_cons pe_int pa_nil))) (pa_cons (pe_ix ix_list (pv 2) (pe_cl c hr (by decide) (by rfl) (pa_cons (pv 0) (pa_cons pe_int pa_nil))) (fun _ _ => rfl)) pa_nil))) rfl)
        (pss_cons (ps_set (i := 6) scDrawn.nd rfl (.inl rfl) (pe_ix ix_list (pe_lst (pa_cons pe_str (pa_cons pe_str (pa_cons pe_str (pa_cons pe_non pa_nil))))) (pe_cl c hr (by decide) (by rfl) (pa_cons (pv 0) (pa_cons pe_int pa_nil))) (fun _ _ => rfl)))
        (pss_one (ps_if (pt_cmpR op_notN (pv 6) pe_non (nomark _)) (pss_one (ps_dput hu (pv 4) (pv 5) (pv 6) rfl)) pss_nil)))))
      (pss_one (ps_ret (pe_tup (pa_cons (pv 3) (pa_cons (pe_make M.M FI hr (by rfl) M.mgC hbd hds pass0 (pa_cons pe_dnewK (pa_cons (pv 3) pa_nil))) (pa_cons (pv 4) pa_nil))))))), ?_⟩
    refine ⟨_, rfl, b, bc, rfl, G, fun H1 nl ns k1 g1 nn nnb en1 len3 nd ok => ?_⟩
    obtain ⟨bs0, hb0⟩ := G.ls
    refine ⟨by show 4 ≤ sizeLine; decide, fun kl nkl => fun d nd' => fun kp nkp => ?_⟩
    -- the new list of kinds, the two new dicts
    have nklb := g1.no nkl
    have k2 := k1.new (o := .lst [V.str "fixed", V.str "stable", V.str "changing", V.str "effect"]) nkl
    have g2 := g1.put (o := .lst [V.str "fixed", V.str "stable", V.str "changing", V.str "effect"]) nklb
    have ndb := g2.no nd'
    have k3 := k2.new (o := .dK []) nd'
    have g3 := g2.put (o := .dK []) ndb
    have nkpb := g3.no nkp
    have k4 := k3.new (o := .dK []) nkp
    have g4 := g3.put (o := .dK []) nkpb
    have n0d : H d = none := k2.unmade ndb.1 nd'
    have n0kp : H kp = none := k3.unmade nkpb.1 nkp
    have ekl : (upd (upd (upd H1 kl (.lst [V.str "fixed", V.str "stable", V.str "changing", V.str "effect"])) d (.dK [])) kp (.dK [])) kl = some (.lst (KN.map V.str)) := keep1 (keep1 upd_same nd') nkp
    have enl : (upd (upd (upd H1 kl (.lst [V.str "fixed", V.str "stable", V.str "changing", V.str "effect"])) d (.dK [])) kp (.dK [])) nl = some (.lst (ns.map V.str)) := keep1 (keep1 (keep1 en1 nkl) nd') nkp
    have ed : (upd (upd (upd H1 kl (.lst [V.str "fixed", V.str "stable", V.str "changing", V.str "effect"])) d (.dK [])) kp (.dK [])) d = some (.dK []) := keep1 upd_same nkp
    have ekp : (upd (upd (upd H1 kl (.lst [V.str "fixed", V.str "stable", V.str "changing", V.str "effect"])) d (.dK [])) kp (.dK [])) kp = some (.dK []) := upd_same
    have ndkp : d ≠ kp := fun z => by
      rw [← z, upd_same] at nkp
      cases nkp
    revert k4 g4 ekl enl ed ekp
    generalize upd (upd (upd H1 kl (.lst [V.str "fixed", V.str "stable", V.str "changing", V.str "effect"])) d (.dK [])) kp (.dK []) = H4
    intro k4 g4 ekl enl ed ekp
    refine ⟨by show 4 ≤ sizeLine; decide, fun tp ntp => ?_⟩
    refine ⟨tp, _, rfl, SqT.of upd_same, rfl, .ref nl, _, rfl, .ref kl, _, rfl, .ref d, _, rfl, .ref kp, [], rfl, rfl, ?_⟩
    have k5 := k4.new (o := .tup [V.ref nl, V.ref kl, V.ref d, V.ref kp]) ntp
    have g5 := g4.put (o := .tup [V.ref nl, V.ref kl, V.ref d, V.ref kp]) (g4.no ntp)
    have ekl5 := keep1 (u := .tup [V.ref nl, V.ref kl, V.ref d, V.ref kp]) ekl ntp
    have enl5 := keep1 (u := .tup [V.ref nl, V.ref kl, V.ref d, V.ref kp]) enl ntp
    have ed5 := keep1 (u := .tup [V.ref nl, V.ref kl, V.ref d, V.ref kp]) ed ntp
    have ekp5 := keep1 (u := .tup [V.ref nl, V.ref kl, V.ref d, V.ref kp]) ekp ntp
    revert k5 g5 ekl5 enl5 ed5 ekp5
    generalize upd H4 tp (.tup [V.ref nl, V.ref kl, V.ref d, V.ref kp]) = H5
    intro k5 g5 ekl5 enl5 ed5 ekp5
    -- some of the names
    refine ⟨_, rfl, _, rfl, b, bc, 3, rfl, g5, by decide, by decide, fun H6 r k6 g6 r0 r1 => ⟨_, _, rfl, rfl, _, rfl, nl, _, rfl, SqL.of (k6 _ _ nnb enl5), fun sl nsl => ?_⟩⟩
    obtain ⟨m, rfl⟩ : ∃ m : Nat, r = m := ⟨r.toNat, by omega⟩
    have cut : cutV (ns.map V.str) none (some (1 + (m : Int))) = (ns.take (m + 1)).map V.str := by
      have e : (1 + (m : Int)) = ((m + 1 : Nat) : Int) := by omega
      rw [e, cut_take' (by rw [List.length_map]; omega), List.map_take]
    rw [cut]
    have nslb := g6.no nsl
    have k7 := (k5.trans k6).new (o := .lst ((ns.take (m + 1)).map V.str)) nsl
    have g7 := g6.put (o := .lst ((ns.take (m + 1)).map V.str)) nslb
    have esl : (upd H6 sl (.lst ((ns.take (m + 1)).map V.str))) sl = some (.lst ((ns.take (m + 1)).map V.str)) := upd_same
    have ekl7 := keep1 (u := .lst ((ns.take (m + 1)).map V.str)) (k6 _ _ nklb.1 ekl5) nsl
    have ed7 := keep1 (u := .lst ((ns.take (m + 1)).map V.str)) (k6 _ _ ndb.1 ed5) nsl
    have ekp7 := keep1 (u := .lst ((ns.take (m + 1)).map V.str)) (k6 _ _ nkpb.1 ekp5) nsl
    revert k7 g7 esl ekl7 ed7 ekp7
    generalize upd H6 sl (.lst ((ns.take (m + 1)).map V.str)) = H7
    intro k7 g7 esl ekl7 ed7 ekp7
    have lm : (ns.take (m + 1)).length = m + 1 := by
      rw [List.length_take]
      omega
    have ndm : (ns.take (m + 1)).Nodup := nd.sublist (List.take_sublist _ _)
    have okm : ∀ n ∈ ns.take (m + 1), NameOk n := fun n hn => ok n (List.mem_of_mem_take hn)
    revert esl lm ndm okm
    generalize ns.take (m + 1) = ms
    intro esl lm ndm okm
    refine ⟨sl, rfl, ⟨_, SqL.of esl⟩, for_it (walk_list (xs := ms.map V.str)) (fun i σ H' => ∃ x5 x6, σ = [some (.ref b), some (.ref nl), some (.ref kl), some (.ref d), some (.ref kp), x5, x6] ∧ Keep b H H' ∧ Bag H' b bc ∧
        H' sl = some (.lst (ms.map V.str)) ∧ H' kl = some (.lst (KN.map V.str)) ∧ (∃ fs, fs.map (·.nm) = ms.take i ∧ Fns H' d fs ∧ ∀ f ∈ fs, FnGood f) ∧ ∃ kvs, H' kp = some (.dK kvs) ∧ kvs.length ≤ i)
      ⟨none, none, rfl, k7, g7, esl, ekl7, ⟨[], rfl, ⟨ed7, (fun f hf => nomatch hf)⟩, (fun f hf => nomatch hf)⟩, [], ekp7, Nat.le_refl _⟩ (fun _ _ _ _ ⟨_, _, _, _, _, z, _⟩ => SqL.of z) ?_ ?_⟩
    · rintro i y σ H8' H8 hi ⟨x5, x6, rfl, k8, g8, e8, ekl8, ⟨fs, efs, X8, good8⟩, kvs, ekp8, lkv⟩ ⟨rfl, hy⟩
      rw [List.length_map, lm] at hi
      obtain ⟨z, hz, rfl⟩ := map_getEq hy
      have il : i < ms.length := by omega
      obtain ⟨bs8, hb8⟩ := g8.ls
      have lfs : fs.length = i := by
        have := congrArg List.length efs
        rw [List.length_map, List.length_take] at this
        omega
      -- the pair
      refine ⟨_, rfl, b, bc, 3, rfl, g8, by decide, by decide, fun H9 n k9 g9 n0 n1 => ?_⟩
      obtain ⟨n, rfl⟩ : ∃ k : Nat, n = k := ⟨n.toNat, by omega⟩
      refine ⟨_, rfl, _, rfl, b, bc, 4, rfl, g9, by decide, by decide, fun H10 l k10 g10 l0 l1 => ?_⟩
      obtain ⟨l, rfl⟩ : ∃ k : Nat, l = k := ⟨l.toNat, by omega⟩
      obtain ⟨kd, hkd, mkd⟩ := four (m := l) (by omega)
      have k810 := k9.trans k10
      refine ⟨kl, _, l, .str kd, rfl, rfl, SqL.of (k810 _ _ nklb.1 ekl8), atI_nat (by rw [List.getElem?_map, hkd]; rfl), by show 2 ≤ sizeLine; decide, fun pp npp => ?_⟩
      have nppb := g10.no npp
      have X10 := X8.kb k810 hb8
      refine ⟨_, rfl, _, rfl, d, _, rfl, DPut.k (k := Sum.inr z) (keep1 X10.dk npp) (by rw [List.length_map]; exact small1000 (by omega)), ?_⟩
      have k11 : Keep b H (upd (upd H10 pp (.tup [V.int (n : Int), V.str kd])) d (.dK (putK (fs.map kvF) (Sum.inr z) (.ref pp)))) := ((k8.trans k810).new npp).putN n0d
      have g11 : Bag (upd (upd H10 pp (.tup [V.int (n : Int), V.str kd])) d (.dK (putK (fs.map kvF) (Sum.inr z) (.ref pp)))) b bc := (g10.put nppb).put ndb
      have nslD : sl ≠ d := ne_of (k810 _ _ nslb.1 e8) X10.dk (by intro z; cases z)
      have nklD : kl ≠ d := ne_of (k810 _ _ nklb.1 ekl8) X10.dk (by intro z; cases z)
      have esl11 : (upd (upd H10 pp (.tup [V.int (n : Int), V.str kd])) d (.dK (putK (fs.map kvF) (Sum.inr z) (.ref pp)))) sl = some (.lst (ms.map V.str)) := (upd_ne nslD).trans (keep1 (k810 _ _ nslb.1 e8) npp)
      have ekl11 : (upd (upd H10 pp (.tup [V.int (n : Int), V.str kd])) d (.dK (putK (fs.map kvF) (Sum.inr z) (.ref pp)))) kl = some (.lst (KN.map V.str)) := (upd_ne nklD).trans (keep1 (k810 _ _ nklb.1 ekl8) npp)
      have ekp11 : (upd (upd H10 pp (.tup [V.int (n : Int), V.str kd])) d (.dK (putK (fs.map kvF) (Sum.inr z) (.ref pp)))) kp = some (.dK kvs) := (upd_ne ndkp.symm).trans (keep1 (k810 _ _ nkpb.1 ekp8) npp)
      have vn : valV (fs.map kvF) (Sum.inr z) = none := val_out (key := Fn.nm) (val := fun f => V.ref f.at_) fun g hg e => by
        have : z ∈ ms.take i := by
          rw [← efs, ← e]
          exact List.mem_map.mpr ⟨g, hg, rfl⟩
        exact nodup_take ndm hz this
      have npd : pp ≠ d := fun z => by
        rw [z, X10.dk] at npp
        cases npp
      have X11 : Fns (upd (upd H10 pp (.tup [V.int (n : Int), V.str kd])) d (.dK (putK (fs.map kvF) (Sum.inr z) (.ref pp)))) d (fs ++ [⟨z, n, kd, pp⟩]) := by
        refine ⟨?_, fun g hg => ?_⟩
        · rw [upd_same, putK_new _ vn, List.map_append]
          rfl
        · rcases List.mem_append.mp hg with w | w
          · exact (upd_ne (ne_of (X10.at_ g w) X10.dk (by intro z; cases z))).trans (keep1 (X10.at_ g w) npp)
          · rw [List.mem_singleton.mp w]
            exact (upd_ne npd).trans upd_same
      show tSeq _ _ _ _ (upd (upd H10 pp (.tup [V.int (n : Int), V.str kd])) d (.dK (putK (fs.map kvF) (Sum.inr z) (.ref pp))))
      revert k11 g11 esl11 ekl11 ekp11 X11
      generalize upd (upd H10 pp (.tup [V.int (n : Int), V.str kd])) d (.dK (putK (fs.map kvF) (Sum.inr z) (.ref pp))) = H11
      intro k11 g11 esl11 ekl11 ekp11 X11
      -- its span
      refine ⟨by show 4 ≤ sizeLine; decide, fun lp nlp => ?_⟩
      have nlpb := g11.no nlp
      have g12 := g11.put (o := .lst [V.str "never", V.str "statement", V.str "ever", V.non]) nlpb
      have k12 : Keep b H11 (upd H11 lp (.lst [V.str "never", V.str "statement", V.str "ever", V.non])) := (Keep.of (.refl H11)).new nlp
      refine ⟨_, rfl, b, bc, 4, rfl, g12, by decide, by decide, fun H13 q4 k13 g13 q40 q41 => ?_⟩
      obtain ⟨q4, rfl⟩ : ∃ k : Nat, q4 = k := ⟨q4.toNat, by omega⟩
      obtain ⟨v, hv, hvk⟩ := span4 (m := q4) (by omega)
      refine ⟨lp, _, q4, v, rfl, rfl, SqL.of (k13 _ _ nlpb.1 upd_same), atI_nat hv, ?_⟩
      have k1113 := k12.trans k13
      obtain ⟨bs11, hb11⟩ := g11.ls
      have X13 := X11.kb k1113 hb11
      have efs' : (fs ++ [(⟨z, n, kd, pp⟩ : Fn)]).map (·.nm) = ms.take (i + 1) := by
        rw [List.map_append, efs, take_next hz]
        rfl
      have good' : ∀ f ∈ fs ++ [(⟨z, n, kd, pp⟩ : Fn)], FnGood f := fun g hg => by
        rcases List.mem_append.mp hg with w | w
        · exact good8 g w
        · rw [List.mem_singleton.mp w]
          exact ⟨okm z (List.mem_of_getElem? hz), by show n ≤ 3; omega, mkd⟩
      refine ⟨_, rfl, rfl, _, rfl, ?_⟩
      rcases hvk with rfl | ⟨sp, rfl⟩
      · exact iteF ⟨_, _, rfl, k11.trans k1113, g13, k1113 _ _ nslb.1 esl11, k1113 _ _ nklb.1 ekl11, ⟨_, efs', X13, good'⟩, kvs, k1113 _ _ nkpb.1 ekp11, by omega⟩
      · have ekp13 := k1113 _ _ nkpb.1 ekp11
        refine iteT ⟨_, rfl, _, rfl, _, rfl, kp, _, rfl, DPut.k (k := Sum.inr z) ekp13 (small1000 (by omega)), ?_⟩
        show Ends.nx _ _ (upd H13 kp (.dK (putK kvs (Sum.inr z) (.str sp))))
        refine ⟨_, _, rfl, (k11.trans k1113).putN n0kp, g13.put nkpb, (upd_ne (ne_of (k1113 _ _ nslb.1 esl11) ekp13 (by intro z; cases z))).trans (k1113 _ _ nslb.1 esl11),
          (upd_ne (ne_of (k1113 _ _ nklb.1 ekl11) ekp13 (by intro z; cases z))).trans (k1113 _ _ nklb.1 ekl11), ⟨_, efs', ⟨(upd_ne ndkp).trans X13.dk, fun g hg => (upd_ne (ne_of (X13.at_ g hg) ekp13 (by intro z; cases z))).trans (X13.at_ g hg)⟩, good'⟩,
          _, upd_same, ?_⟩
        have := length_putK kvs (Sum.inr z) (.str sp)
        omega
    · rintro σ H8 ⟨x5, x6, rfl, k8, g8, e8, ekl8, ⟨fs, efs, X8, good8⟩, kvs, ekp8, lkv⟩
      rw [List.length_map, List.take_of_length_le (Nat.le_refl _)] at efs
      have lfs : fs.length = m + 1 := by
        have := congrArg List.length efs
        rw [List.length_map] at this
        omega
      have ndf : (fs.map (·.nm)).Nodup := by
        rw [efs]
        exact ndm
      refine ⟨_, rfl, fun tb ntb => ?_⟩
      have ntbb := g8.no ntb
      have k9 := k8.new (o := .dK []) ntb
      have g9 := g8.put (o := .dK []) ntbb
      have s9 : Same H8 (upd H8 tb (.dK [])) := sm_new (.refl H8) ntb
      have X9 := X8.same s9
      have etb : (upd H8 tb (.dK [])) tb = some (.dK []) := upd_same
      have ekp9 := s9 _ _ ekp8
      revert k9 g9 s9 X9 etb ekp9
      generalize upd H8 tb (.dK []) = H9
      intro k9 g9 s9 X9 etb ekp9
      refine ⟨_, rfl, fun y dy ny ndy ne => ?_⟩
      have s11 := sm_new (o := .ins C dy []) (sm_new (o := .own y) (.refl H9) ndy) ((upd_ne (fun z => ne z.symm)).trans ny)
      refine ⟨y, dy, tb, d, e1, e2, .non, fs, rfl, upd_same, s11 _ _ etb, X9.same s11, ndf, good8, by omega, .inl rfl, M.E1 _, M.E2 _, fun H12 k12 S12 => ⟨rfl, ?_⟩⟩
      have s12 : Same H9 H12 := fun b o e => k12 b o (ne_of_none e ny) (s11 b o e)
      refine ⟨_, rfl, by show 3 ≤ sizeLine; decide, fun tp ntp => ?_⟩
      have s13 := sm_new (o := .tup [V.ref d, V.ref y, V.ref kp]) s12 ntp
      exact q _ tp d y kp fs (k9.same s13) (g9.same s13) upd_same (X9.same s13) (S12.same (sm_new (.refl H12) ntp)) (by omega)
end
end K17
set_option Elab.async false
set_option linter.all false
set_option maxRecDepth 100000
set_option maxHeartbeats 4000000
namespace K17
open PySem PySem.Spec PyProof.Rows L2 PpSet
/-! ### the law's two looks at answers -/
/-- data that the law shows -/
structure Shw (d : PyData) : Prop where
  kind : (∃ b, d = .bool b) ∨ ∃ ds, d = .list ds
  sh : SeqAt.shaped d = true
  eq : PyData.eqv d d = true
  can : d.showable = true
  nod : d.hasDict = false
  dep : d.depth ≤ 20
  len : d.shown.length ≤ sizeLine
theorem shw_bool (b : Bool) : Shw (.bool b) := by
  refine ⟨.inl ⟨b, rfl⟩, ?_, ?_, ?_, ?_, ?_, ?_⟩
  · cases b <;> rfl
  · cases b <;> decide +kernel
  · rfl
  · rfl
  · cases b <;> decide +kernel
  · exact Nat.le_of_lt (small1000 (by cases b <;> decide +kernel))
theorem merge_new : ∀ {more kvs : List (Key × V)}, (more.map (·.1)).Nodup → (∀ k ∈ more.map (·.1), k ∉ kvs.map (·.1)) → mergeK kvs more = kvs ++ more
  | [], kvs, _, _ => by
    show kvs = _
    rw [List.append_nil]
  | p :: r, kvs, nd, no => by
    rw [List.map_cons, List.nodup_cons] at nd
    have vn : valV kvs p.1 = none := by
      cases e : valV kvs p.1 with
      | none => rfl
      | some v =>
        have h1 := valV_any p.1 kvs
        rw [e] at h1
        obtain ⟨q, hq, hq2⟩ := List.any_eq_true.mp h1
        have : p.1 ∈ kvs.map (·.1) := List.mem_map.mpr ⟨q, hq, of_decide_eq_true hq2⟩
        exact absurd this (no p.1 (by rw [List.map_cons]; exact List.mem_cons_self))
    show mergeK (putK kvs p.1 p.2) r = _
    rw [putK_new _ vn, merge_new nd.2 (fun k hk hk2 => ?_), List.append_assoc]
    · rfl
    · rw [List.map_append] at hk2
      rcases List.mem_append.mp hk2 with z | z
      · exact no k (by rw [List.map_cons]; exact List.mem_cons_of_mem _ hk) z
      · have z := List.mem_singleton.mp z
        rw [z] at hk
        exact nd.1 hk
theorem merge_nil {more : List (Key × V)} (nd : (more.map (·.1)).Nodup) : mergeK [] more = more := by
  rw [merge_new nd (fun k _ h => absurd h (by simp))]
  rfl
theorem paired_at {α β : Type} {R : α → β → Prop} : ∀ {xs : List α} {ys : List β}, xs.length = ys.length → (∀ (j : Nat) (x : α) (y : β), xs[j]? = some x → ys[j]? = some y → R x y) → Paired R xs ys
  | [], [], _, _ => .nil
  | [], _ :: _, hl, _ => absurd hl (by simp)
  | _ :: _, [], hl, _ => absurd hl (by simp)
  | x :: xs, y :: ys, hl, h => .cons (h 0 x y rfl rfl) (paired_at (Nat.succ.inj hl) fun j a b ha hb => h (j + 1) a b ha hb)
theorem inr_nodup : ∀ {l : List Str}, l.Nodup → (l.map fun z => (Sum.inr z : Key)).Nodup
  | [], _ => List.nodup_nil
  | z :: l, h => by
    rw [List.nodup_cons] at h
    rw [List.map_cons, List.nodup_cons]
    refine ⟨fun hm => ?_, inr_nodup h.2⟩
    obtain ⟨y, hy, e⟩ := List.mem_map.mp hm
    rw [Sum.inr.inj e] at hy
    exact h.1 hy
theorem eqv_ints_self (ns : List Int) : PyData.eqv (.list (ns.map PyData.int)) (.list (ns.map PyData.int)) = true := by
  rw [PyData.eqv, eqv_ints]
  exact decide_eq_true rfl
def keptOf (fs : List Fn) : List (Str × Str) := fs.map fun f => (f.nm, lastOf f.kd)
theorem kept_kv (fs : List Fn) : (keptOf fs).map kvC = fs.map fun f => ((Sum.inr f.nm : Key), V.str (lastOf f.kd)) := by
  unfold keptOf
  rw [List.map_map]
  rfl
theorem kept_span {fs : List Fn} (nd : (fs.map (·.nm)).Nodup) {f : Fn} (hf : f ∈ fs) : spanOf (keptOf fs) f.nm = lastOf f.kd := by
  have h1 := val_in (key := Fn.nm) (val := fun f => V.str (lastOf f.kd)) nd hf
  rw [← kept_kv, val_look] at h1
  unfold spanOf
  cases e : (keptOf fs).lookup f.nm with
  | none =>
    rw [e] at h1
    cases h1
  | some z =>
    rw [e] at h1
    exact V.str.inj (Option.some.inj h1)
section
variable {base : Heap} {mg : Str → Option Value} {K : PySem.W.Frag} {w : World} {P : Program}
def spAlike (K : PySem.W.Frag) : Sp := fun vs H Q _ => ∃ (x y : V) (d : PyData), vs = [x, y] ∧ Dp K H x d ∧ Dp K H y d ∧ Shw d ∧ Q (.bl true) H
theorem cal_alike (B : Bi mg) (D : DefAt K mg "_law_alike" sAlike pAlike) : CalG P w K mg base 1 "_law_alike" (spAlike K) := by
  refine D.calG (k := 0) scAlike (fun vs H Q E h => ?_) (fun cdv ff A outer s H vs Q E hr hg h => ?_)
  · obtain ⟨x, y, d, rfl, _⟩ := h
    rfl
  · obtain ⟨x, y, d, rfl, hx, hy, S, q⟩ := h
    refine ⟨_, pss_one (ps_ret (pe_and (pe_cmpR (op_eqD hr.units) (pv 0) (pv 1) (nomark _))
      (pe_one (pe_cmpR op_eq (pe_callB (cr_repr hr hg) (by rfl) B.repr (by decide +kernel) (pa_cons (pv 0) pa_nil)) (pe_callB (cr_repr hr hg) (by rfl) B.repr (by decide +kernel) (pa_cons (pv 1) pa_nil)) (nomark _))))), ?_⟩
    refine ⟨_, rfl, _, rfl, d, d, hx, hy, S.sh, S.sh, _, rfl, ?_⟩
    rw [S.eq]
    refine iteT ⟨_, rfl, x, d, rfl, hx, S.kind, S.can, S.nod, S.dep, S.len, _, rfl, y, d, rfl, hy, S.kind, S.can, S.nod, S.dep, S.len, rfl, ?_⟩
    rw [decide_eq_true rfl]
    exact q
def spKept : Sp := fun vs H Q _ => ∃ (d h : Addr) (x : V) (fs : List Fn) (ts : List Addr) (ks : List Ask), vs = [.ref d, x, .ref h] ∧ Fns H d fs ∧ (fs.map (·.nm)).Nodup ∧ (∀ f ∈ fs, FnGood f) ∧ fs.length ≤ 6 ∧ Hist H h ts ks ∧
  (∀ k ∈ ks, k.fn ∈ fs.map (·.nm)) ∧ histB (kdOf fs) ks = true ∧ ∀ H', Same H H' → Q (.bl true) H'
def teKind (K : PySem.W.Frag) : TE := tOp (rIxT K) (tDGet (tVar 0) (tVar 3)) (tC (.int 1))
theorem cal_kept (B : Bi mg) (D : DefAt K mg "_law_kept_right" sKeptRight pKeptRight) (c1 : Cal P w K mg base 1 "lasting" spLasting) (c2 : Cal P w K mg base 2 "told" spTold) (c3 : Cal P w K mg base 2 "asked" spAsked) :
    Cal P w K mg base 3 "_law_kept_right" spKept := by
  refine D.cal (k := 2) scKeptRight (fun vs H Q E h => ?_) (fun cdv ff A outer s H vs Q E hr h => ?_)
  · obtain ⟨d, h, x, fs, ts, ks, rfl, _⟩ := h
    rfl
  · obtain ⟨d, h, x, fs, ts, ks, rfl, F, nd, good, few, X, hin, hh, q⟩ := h
    have hu := hu_of hr
    refine ⟨_, pss_cons (ps_set (i := 4) scKeptRight.nd rfl (.inl rfl) (pe_callTy (call_dictP rfl) (by rfl) B.dict (by decide +kernel) (pa_cons
        (pe_lock (pe_lc (own := [("_law_name", 3)]) (g := gName 3) (tt := tYes) (te := tTup (tCons (tVar 3) (tCons (tCall spLasting [] L2.E0 (tCons (teKind K) tNil)) tNil))) rfl scKeptRight.nd (pi_keys (pv 0)) (blkOk_by (N := nKeptRight) (sc := defScope sKeptRight) (by decide +kernel))
          (fun _ _ _ _ _ => pg_name (i := 3) scKeptRight.nd rfl (Or.inl rfl)) (fun _ _ _ _ _ => pts_nil)
          (fun _ _ _ _ _ => pe_tup (pa_cons (pv 3) (pa_cons (pe_cl c1 hr (by decide) (by rfl) (pa_cons (pe_ix ix_tup (pe_dget hu (pv 0) (pv 3) (fun _ _ => rfl)) pe_int (fun _ _ => rfl)) pa_nil)) pa_nil))))) pa_nil)))
      (pss_cons (ps_if (pt_cmpR (op_neD hr.units) (pe_cl c2 hr (Nat.le_refl _) (by rfl) (pa_cons (pv 1) (pa_cons (pv 4) (pa_cons (pv 2) pa_nil))))
          (pe_lc (own := [("_law_ask", 14)]) (g := gName 14) (tt := tYes) (te := tOp (rIxT K) (tVar 14) (tC (.int 3))) rfl scKeptRight.nd (pi_list (pv 2)) (blkOk_by (N := nKeptRight) (sc := defScope sKeptRight) (by decide +kernel))
            (fun _ _ _ _ _ => pg_name (i := 14) scKeptRight.nd rfl (Or.inl rfl)) (fun _ _ _ _ _ => pts_nil) (fun _ _ _ _ _ => pe_ix ix_tup (pv 14) pe_int (fun _ _ => rfl))) (nomark _))
        (pss_one (ps_ret pe_bl)) pss_nil)
      (pss_cons (ps_set (i := 5) scKeptRight.nd rfl (.inl rfl) (pe_lst pa_nil))
      (pss_cons (ps_for PassesOwn.never rfl (pi_range1 (by rfl) B.range (pa_cons (pe_callB call_len_seq (by rfl) B.len PySem.boot_len (pa_cons (pv 2) pa_nil)) pa_nil)) (pg_name (i := 6) scKeptRight.nd rfl (.inl rfl))
        (pss_cons (ps_asg (pe_ix ix_list (pv 2) (pv 6) (fun _ _ => rfl)) (pg_tup rfl (pgs_cons (pg_name (i := 7) scKeptRight.nd rfl (.inl rfl)) (pgs_cons (pg_name (i := 3) scKeptRight.nd rfl (.inl rfl))
          (pgs_cons (pg_name (i := 8) scKeptRight.nd rfl (.inl rfl)) (pgs_cons (pg_name (i := 9) scKeptRight.nd rfl (.inl rfl)) pgs_nil))))))
        (pss_cons (ps_par (i := 10) (j := 11) rfl scKeptRight.nd rfl rfl (by decide) rfl rfl (pa_cons (pe_ix ix_tup (pe_dget hu (pv 0) (pv 3) (fun _ _ => rfl)) pe_int (fun _ _ => rfl)) (pa_cons pe_bl pa_nil)) (by rfl))
        (pss_cons (ps_for PassesOwn.never rfl (pi_list (pe_slice sl_list (pv 2) po_none (po_some (pv 6)))) (pg_name (i := 12) scKeptRight.nd rfl (.inl rfl))
          (C8.pss_cut (ps_set (i := 13) scKeptRight.nd rfl (.inl rfl) (pe_or (pe_cmpR op_eq (pv 10) pe_str (nomark _)) (pe_one (pe_and (pe_cmpR op_eq (pv 10) pe_str (nomark _))
            (pe_one (pe_cmpR op_eq (pe_ix ix_tup (pv 12) pe_int (fun _ _ => rfl)) (pv 7) (nomark _)))))))
          (pss_one (ps_if (PW.pt (pw_and (pt_val (pv 13)) (pw_and1 (pt_cmpR (op_eqD hr.units) (pe_slice sl_tup (pv 12) (po_some pe_int) (po_some pe_int)) (pe_tup (pa_cons (pv 3) (pa_cons (pv 8) pa_nil))) (nomark _)))))
            (pss_one (ps_set (i := 11) scKeptRight.nd rfl (.inl rfl) pe_bl)) pss_nil))))
        (pss_one (ps_if (pt_val (pv 11)) (pss_one (ps_expr (pe_bm PySem.F.plainAttrs_list PySem.F.slot_list_append PySem.F.type_list_append mt_append (pv 5) (pa_cons (pv 6) pa_nil)))) pss_nil))))))
      (pss_one (ps_ret (pe_cmpR (op_eqD hr.units) (pe_cl c3 hr (Nat.le_refl _) (by rfl) (pa_cons (pv 1) (pa_cons (pv 4) (pa_cons (pv 2) pa_nil)))) (pv 5) (nomark _))))))), ?_⟩
    -- the keepings
    have hrt := hist_iff.mp hh
    refine ⟨d, _, F.dk, trivial, fun od => ⟨_, rfl, d, od, rfl, .inl ⟨_, upd_same, fun D nD => ?_⟩⟩⟩
    refine lc_it (walk_keys (kvs := fs.map kvF)) (fun i H' => Same (upd H d (.frz od (.dK (fs.map kvF)))) H' ∧ ∃ ps : List Addr, ps.length = i ∧ H' D = some (.lst (ps.map V.ref)) ∧
        ∀ (j : Nat) (p : Addr) (f : Fn), ps[j]? = some p → fs[j]? = some f → H' p = some (.tup [.str f.nm, .str (lastOf f.kd)]))
      ⟨sm_new (.refl _) nD, [], rfl, upd_same, fun j p f hp _ => by simp at hp⟩ (fun _ _ _ z => z.1 _ _ upd_same) ?_ ?_
    · rintro i y H1' H1 hi ⟨s1, ps, lp, eD, hp⟩ ⟨rfl, k, v, hkv, rfl⟩
      rw [List.length_map] at hi
      obtain ⟨f, hf⟩ : ∃ f, fs[i]? = some f := ⟨_, List.getElem?_eq_getElem hi⟩
      have mf : f ∈ fs := List.mem_of_getElem? hf
      rw [List.getElem?_map, hf] at hkv
      cases hkv
      have ed := s1 _ _ upd_same
      have v1 : DGet H1 d (.str f.nm) (some (.ref f.at_)) := .inl ⟨fs.map kvF, Sum.inr f.nm, .inr ⟨od, ed⟩, rfl, (fn_val nd mf).symm⟩
      have ef : H1 f.at_ = some (.tup [.int (f.many : Nat), .str f.kd]) := s1 _ _ ((upd_ne (ne_of (F.at_ f mf) F.dk (by intro z; cases z))).trans (F.at_ f mf))
      refine ⟨rfl, _, rfl, _, rfl, _, rfl, d, _, rfl, v1, f.at_, _, 1, .str f.kd, rfl, rfl, SqT.of ef, rfl, f.kd, rfl, (good f mf).kd, ?_⟩
      refine ⟨by show 2 ≤ sizeLine; decide, fun p np => ⟨_, keep1 eD np, ?_, sm_put (sm_new s1 np) nD, ps ++ [p], by rw [List.length_append, lp]; rfl, ?_, ?_⟩⟩
      · rw [List.length_map]
        exact small1000 (by omega)
      · rw [upd_same, List.map_append]
        rfl
      · intro j p' f' hp' hf'
        by_cases hj : j < ps.length
        · rw [List.getElem?_append_left hj] at hp'
          have e := hp j p' f' hp' hf'
          exact (upd_ne (ne_of e eD (by intro z; cases z))).trans (keep1 e np)
        · have hj' : j = i := by
            have := (List.getElem?_eq_some_iff.mp hp').1
            rw [List.length_append] at this
            have : j < ps.length + 1 := this
            omega
          subst hj'
          rw [List.getElem?_append_right (by omega), lp, Nat.sub_self] at hp'
          cases hp'
          rw [hf] at hf'
          cases hf'
          have nd' : p ≠ D := fun z => by
            rw [z, eD] at np
            cases np
          exact (upd_ne nd').trans upd_same
    rintro H1 ⟨s1, ps, lp, eD, hp⟩
    rw [List.length_map] at lp
    refine ⟨s1 _ _ upd_same, ?_⟩
    have s2 := lock_same F.dk s1
    have neD : D ≠ d := fun z => by
      rw [z, upd_same] at nD
      cases nD
    have eD2 : (upd H1 d (.dK (fs.map kvF))) D = some (.lst (ps.map V.ref)) := (upd_ne neD).trans eD
    have hp2 : ∀ (j : Nat) (p : Addr) (f : Fn), ps[j]? = some p → fs[j]? = some f → (upd H1 d (.dK (fs.map kvF))) p = some (.tup [.str f.nm, .str (lastOf f.kd)]) := fun j p f a b => by
      have e := hp j p f a b
      exact (upd_ne (ne_of e (s1 _ _ upd_same) (by intro z; cases z))).trans e
    revert s2 eD2 hp2
    generalize upd H1 d (.dK (fs.map kvF)) = H2
    intro s2 eD2 hp2
    refine ⟨D, ps, (keptOf fs).map kvC, rfl, SqL.of eD2, paired_at (by rw [List.length_map, keptOf, List.length_map, lp]) fun j p kv hj hkv => ?_, fun kp nkp => ?_⟩
    · rw [kept_kv, List.getElem?_map] at hkv
      cases hf : fs[j]? with
      | none =>
        rw [hf] at hkv
        cases hkv
      | some f =>
        rw [hf] at hkv
        cases hkv
        exact SqT.of (hp2 j p f hj hf)
    rw [merge_nil (by rw [kept_kv, List.map_map]; exact (by rw [← List.map_map (f := fun f : Fn => f.nm)]; exact inr_nodup nd : (fs.map ((fun z => (Sum.inr z : Key)) ∘ fun f : Fn => f.nm)).Nodup))]
    have s3 := sm_new (o := .dK ((keptOf fs).map kvC)) s2 nkp
    have ekp : (upd H2 kp (.dK ((keptOf fs).map kvC))) kp = some (.dK ((keptOf fs).map kvC)) := upd_same
    revert s3 ekp
    generalize upd H2 kp (.dK ((keptOf fs).map kvC)) = H3
    intro s3 ekp
    have spn : ∀ b ∈ ks, ∃ f ∈ fs, f.nm = b.fn ∧ spanOf (keptOf fs) b.fn = lastOf f.kd ∧ kdOf fs b.fn = f.kd := fun b hb => by
      obtain ⟨f, hf, e⟩ := List.mem_map.mp (hin b hb)
      exact ⟨f, hf, e, by rw [← e]; exact kept_span nd hf, by rw [← e]; exact kdOf_at nd hf⟩
    have hval : ∀ (i j : Nat) (a b : Ask), lastFor (keptOf fs) ks j = some i → ks[i]? = some a → ks[j]? = some b → a.val = b.val := fun i j a b hl ha hb => by
      rw [lastFor_at hb] at hl
      obtain ⟨hij, a', ha', hk⟩ := lastI_some hl
      rw [ha] at ha'
      cases ha'
      obtain ⟨f, hf, e1, e2, e3⟩ := spn b (List.mem_of_getElem? hb)
      rw [e2, kept_agree] at hk
      have h1 := hrt i j a b hij ha hb
      rw [e3, hk, Bool.true_and] at h1
      exact Decidable.byContradiction fun z => by
        rw [decide_eq_true z] at h1
        cases h1
    -- told
    refine ⟨_, rfl, _, rfl, _, rfl, x, kp, h, keptOf fs, ts, ks, rfl, ekp, X.same s3, hval, fun H4 tl s34 ntl etl => ?_⟩
    have s4 := s3.trans s34
    refine ⟨_, rfl, h, rfl, ⟨_, SqL.of (s4 _ _ X.ls)⟩, fun D2 nD2 => ?_⟩
    refine lc_it (walk_list (xs := ts.map V.ref)) (fun i H' => Same H4 H' ∧ H' D2 = some (.lst (((ks.map (·.val)).take i).map V.int))) ⟨sm_new (.refl _) nD2, upd_same⟩ (fun _ _ _ z => SqL.of (z.1 _ _ (s4 _ _ X.ls))) ?_ ?_
    · rintro i y H5' H5 hi ⟨s5, e5⟩ ⟨rfl, hy⟩
      rw [List.length_map] at hi
      obtain ⟨t, b, gt, gk, ⟨rb, ht, hrb⟩, ob⟩ := (X.same (s4.trans s5)).get hi
      rw [List.getElem?_map, gt] at hy
      cases hy
      refine ⟨rfl, _, rfl, t, _, 3, .int b.val, rfl, rfl, SqT.of ht, rfl, _, e5, ?_, sm_put s5 nD2, ?_⟩
      · rw [List.length_map, List.length_take, List.length_map]
        exact small1000 (by have := X.few; omega)
      · rw [upd_same, take_next (a := b.val) (by rw [List.getElem?_map, gk]; rfl), List.map_append]
        rfl
    rintro H5 ⟨s5, e5⟩
    rw [List.length_map, X.len, List.take_of_length_le (by rw [List.length_map]; exact Nat.le_refl _)] at e5
    refine ⟨.list ((ks.map (·.val)).map PyData.int), .list ((ks.map (·.val)).map PyData.int), .lst (SqL.of (s5 _ _ etl)) (dpa_ints _), .lst (SqL.of e5) (dpa_ints _), shaped_ints _, shaped_ints _, _, rfl, ?_⟩
    rw [eqv_ints_self]
    refine iteF ?_
    have s6 := s4.trans s5
    have ekp5 := s5 _ _ (s34 _ _ ekp)
    -- the asks that are asked
    refine ⟨by show 0 ≤ sizeLine; decide, fun fl nfl => ?_⟩
    have s7 := sm_new (o := .lst []) s6 nfl
    have ekp7 := keep1 (u := .lst []) ekp5 nfl
    have efl : (upd H5 fl (.lst [])) fl = some (.lst []) := upd_same
    have n0f : H fl = none := s6.free nfl
    have nfk : kp ≠ fl := fun z => by
      rw [z, nfl] at ekp5
      cases ekp5
    revert s7 ekp7 efl
    generalize upd H5 fl (.lst []) = H7
    intro s7 ekp7 efl
    have hl : (ts.map V.ref).length = ks.length := by rw [List.length_map, X.len]
    refine ⟨_, rfl, h, _, rfl, .inl (SqL.of (s7 _ _ X.ls)), ((ts.map V.ref).length : Nat), rfl, by omega, by have := X.few; omega, ?_⟩
    refine for_it (walk_range (lo := 0) (n := (ts.map V.ref).length)) (fun j σ H' => ∃ x3 x6 x7 x8 x9 x10 x11 x12 x13, σ = [some (.ref d), some x, some (.ref h), x3, some (.ref kp), some (.ref fl), x6, x7, x8, x9, x10, x11, x12, x13, none] ∧ Same H H' ∧
        H' kp = some (.dK ((keptOf fs).map kvC)) ∧ H' fl = some (.lst ((askedI (keptOf fs) ks j).map natV)))
      ⟨none, none, none, none, none, none, none, none, none, rfl, s7, ekp7, efl⟩ (fun _ _ _ _ _ => trivial) ?_ ?_
    · rintro j y σ H8' H8 hj ⟨x3, x6, x7, x8, x9, x10, x11, x12, x13, rfl, s8, ekp8, efl8⟩ ⟨rfl, hy⟩
      have hy : y = .int (j : Int) := by
        rw [hy]
        show V.int (0 + (j : Int)) = _
        rw [Int.zero_add]
      subst hy
      rw [hl] at hj
      obtain ⟨t, b, gt, gk, ⟨rb, ht, hrb⟩, ob⟩ := (X.same s8).get (i := j) (by rw [X.len]; exact hj)
      obtain ⟨f, hf, e1, e2, e3⟩ := spn b (List.mem_of_getElem? gk)
      refine ⟨_, rfl, _, rfl, h, _, (j : Int), .ref t, rfl, rfl, SqL.of (s8 _ _ X.ls), atI_nat (by rw [List.getElem?_map, gt]; rfl), t, _, rfl, SqT.of ht, rfl, _, _, rfl, _, _, rfl, _, _, rfl, _, _, rfl, rfl, ?_⟩
      have F8 := F.same s8
      have v := DGet.k (k := Sum.inr f.nm) F8.dk
      rw [fn_val nd hf, e1] at v
      refine ⟨_, rfl, _, rfl, d, _, rfl, v, f.at_, _, 1, .str f.kd, rfl, rfl, SqT.of (F8.at_ f hf), rfl, _, _, rfl, ?_⟩
      refine ⟨_, rfl, _, rfl, j, rfl, h, _, rfl, SqL.of (s8 _ _ X.ls), fun c nc => ?_⟩
      rw [cut_take _ _ (by rw [hl]; omega)]
      have s9 := sm_new (o := .lst ((ts.map V.ref).take j)) s8 nc
      have ekp9 := keep1 (u := .lst ((ts.map V.ref).take j)) ekp8 nc
      have efl9 := keep1 (u := .lst ((ts.map V.ref).take j)) efl8 nc
      have ec : (upd H8 c (.lst ((ts.map V.ref).take j))) c = some (.lst ((ts.map V.ref).take j)) := upd_same
      have n9 := sm_new (o := .lst ((ts.map V.ref).take j)) (.refl H8) nc
      revert s9 ekp9 efl9 ec n9
      generalize upd H8 c (.lst ((ts.map V.ref).take j)) = H9
      intro s9 ekp9 efl9 ec n9
      refine ⟨c, rfl, ⟨_, SqL.of ec⟩, for_it (walk_list (xs := (ts.map V.ref).take j)) (fun i σ H' => ∃ x12 x13, σ = [some (.ref d), some x, some (.ref h), some (.str b.fn), some (.ref kp), some (.ref fl), some (.int (j : Int)), some (.int b.st), some (.ref rb), some (.int b.val),
          some (.str f.kd), some (.bl (lastI ks (lastOf f.kd) b i).isNone), x12, x13, none] ∧ Same H9 H')
        ⟨x12, x13, rfl, .refl H9⟩ (fun _ _ _ _ ⟨_, _, _, z⟩ => SqL.of (z _ _ ec)) ?_ ?_⟩
      · rintro i y σ H10' H10 hi ⟨x12, x13, rfl, s10⟩ ⟨rfl, hy⟩
        rw [List.length_take, hl] at hi
        have hij : i < j := by omega
        have s010 := s9.trans s10
        obtain ⟨u, a, gu, ga, ⟨ra, hua, hra⟩, oa⟩ := (X.same s010).get (i := i) (by rw [X.len]; omega)
        rw [List.getElem?_take_of_lt hij, List.getElem?_map, gu] at hy
        cases hy
        have nxt := lastI_next (sp := lastOf f.kd) (b := b) ga
        rw [kept_agree] at nxt
        -- is it near
        refine ⟨fun σ' H' => σ' = [some (.ref d), some x, some (.ref h), some (.str b.fn), some (.ref kp), some (.ref fl), some (.int (j : Int)), some (.int b.st), some (.ref rb), some (.int b.val),
          some (.str f.kd), some (.bl (lastI ks (lastOf f.kd) b i).isNone), some (.ref u), some (.bl (near f.kd a b)), none] ∧ H' = H10, ?_, ?_⟩
        · refine ⟨_, rfl, rfl, _, rfl, ?_⟩
          rw [dec_strV]
          unfold near
          cases h1 : decide (f.kd = "fixed") with
          | true => exact iteT ⟨rfl, rfl⟩
          | false =>
            refine iteF ⟨_, rfl, rfl, _, rfl, ?_⟩
            rw [dec_strV]
            cases h2 : decide (f.kd = "stable") with
            | false => exact iteF ⟨rfl, rfl⟩
            | true =>
              refine iteT ⟨_, rfl, u, _, 0, .int a.st, rfl, rfl, SqT.of hua, rfl, _, rfl, rfl, ?_⟩
              rw [dec_intV]
              exact ⟨rfl, rfl⟩
        · rintro σ' H11 ⟨rfl, rfl⟩
          refine ⟨_, rfl, _, rfl, ?_⟩
          cases hc : near f.kd a b with
          | false =>
            have ag : agree f.kd a b = false := by
              unfold agree
              rw [hc]
              rfl
            rw [ag, if_neg Bool.false_ne_true] at nxt
            refine iteF (iteF ?_)
            rw [nxt]
            exact ⟨_, _, rfl, s10⟩
          | true =>
            have ag : agree f.kd a b = same a b := by
              unfold agree
              rw [hc]
              rfl
            rw [ag] at nxt
            refine iteT ⟨_, rfl, 1, rfl, 3, rfl, u, _, rfl, SqT.of hua, cut13, fun p1 np1 => ?_⟩
            have s11 := sm_new (o := .tup (cutV [V.int a.st, V.str a.fn, V.ref ra, V.int a.val] (some 1) (some 3))) s10 np1
            refine ⟨_, rfl, _, rfl, by show 2 ≤ sizeLine; decide, fun p2 np2 => ?_⟩
            have s12 := sm_new (o := .tup [V.str b.fn, V.ref rb]) s11 np2
            have hra2 := keep1 (u := .tup [V.str b.fn, V.ref rb]) (keep1 (u := .tup (cutV [V.int a.st, V.str a.fn, V.ref ra, V.int a.val] (some 1) (some 3))) hra np1) np2
            have hrb2 := s12 _ _ (n9 _ _ hrb)
            refine ⟨keyD a, keyD b, dp_key (keep1 upd_same np2) hra2, dp_key upd_same hrb2, shaped_key oa, shaped_key ob, _, rfl, ?_⟩
            rw [eqv_key]
            cases hs : same a b with
            | false =>
              rw [hs, if_neg Bool.false_ne_true] at nxt
              refine iteF ?_
              rw [nxt]
              exact ⟨_, _, rfl, s12⟩
            | true =>
              rw [hs, if_pos rfl] at nxt
              refine iteT ?_
              rw [nxt]
              exact ⟨_, _, rfl, s12⟩
      · rintro σ H10 ⟨x12, x13, rfl, s10⟩
        rw [List.length_take, hl, Nat.min_eq_left (Nat.le_of_lt hj)]
        have hla : lastFor (keptOf fs) ks j = lastI ks (lastOf f.kd) b j := by rw [lastFor_at gk, e2]
        rw [← hla]
        have nxt := asked_next (cs := keptOf fs) (ks := ks) (n := j)
        have efl10 := s10 _ _ efl9
        refine ⟨_, rfl, _, rfl, ?_⟩
        cases hn : (lastFor (keptOf fs) ks j).isNone with
        | false =>
          rw [hn, if_neg Bool.false_ne_true, List.append_nil] at nxt
          refine iteF ⟨_, _, _, _, _, _, _, _, _, rfl, s9.trans s10, s10 _ _ ekp9, ?_⟩
          rw [nxt]
          exact efl10
        | true =>
          rw [hn, if_pos rfl] at nxt
          refine iteT ⟨_, rfl, .inl ⟨rfl, _, SqL.of efl10⟩, _, rfl, fl, _, _, rfl, rfl, efl10, ?_, ?_⟩
          · rw [List.length_map]
            exact small1000 (by have := asked_few (cs := keptOf fs) (ks := ks) (n := j); have := X.few; omega)
          · show Ends.nx _ _ (upd H10 fl (.lst ((askedI (keptOf fs) ks j).map natV ++ [V.int (j : Int)])))
            refine ⟨_, _, _, _, _, _, _, _, _, rfl, sm_put (s9.trans s10) n0f, (upd_ne nfk).trans (s10 _ _ ekp9), ?_⟩
            rw [upd_same, nxt, List.map_append]
            rfl
    · rintro σ H8 ⟨x3, x6, x7, x8, x9, x10, x11, x12, x13, rfl, s8, ekp8, efl8⟩
      rw [hl] at efl8
      refine ⟨_, rfl, _, rfl, _, rfl, x, kp, h, keptOf fs, ts, ks, rfl, ekp8, X.same s8, fun H9 al s9 nal eal => ?_⟩
      have hm : (askedI (keptOf fs) ks ks.length).map natV = ((askedI (keptOf fs) ks ks.length).map fun n : Nat => (n : Int)).map V.int := by
        rw [List.map_map]
        rfl
      have efl9 := s9 _ _ efl8
      rw [hm] at eal efl9
      refine ⟨_, rfl, .list (((askedI (keptOf fs) ks ks.length).map fun n : Nat => (n : Int)).map PyData.int), .list (((askedI (keptOf fs) ks ks.length).map fun n : Nat => (n : Int)).map PyData.int),
        .lst (SqL.of eal) (dpa_ints _), .lst (SqL.of efl9) (dpa_ints _), shaped_ints _, shaped_ints _, ?_⟩
      rw [eqv_ints_self]
      exact q H9 (s8.trans s9)
end
end K17
set_option Elab.async false
set_option linter.all false
set_option maxRecDepth 100000
set_option maxHeartbeats 4000000
namespace K17
open PySem PySem.Spec PyProof.Rows L2 PpSet
/-! ### what the law asks, without a program -/
theorem kdOf_pairs (z : Str) : ∀ fs : List Fn, kdOf fs z = ((fs.map fun f => (f.nm, f.kd)).lookup z).getD ("" : Str)
  | [] => rfl
  | f :: fs => by
    have ih := kdOf_pairs z fs
    unfold kdOf at ih ⊢
    rw [List.map_cons, List.lookup_cons, List.find?_cons]
    by_cases e : f.nm = z
    · subst e
      rw [beq_self_eq_true]
      rfl
    · have e1 : (f.nm == z) = false := beq_eq_false_iff_ne.mpr e
      have e2 : (z == f.nm) = false := beq_eq_false_iff_ne.mpr fun h => e h.symm
      rw [e1]
      simp only [e2]
      exact ih
theorem kdOf_same {fs gs : List Fn} (h : fs.map (fun f => (f.nm, f.kd)) = gs.map fun f => (f.nm, f.kd)) : kdOf fs = kdOf gs := funext fun z => by
  rw [kdOf_pairs, kdOf_pairs, h]
theorem Rekind.find {cs : List (Str × Str)} {fs fs' : List Fn} (R : Rekind cs fs fs') {f : Fn} (hf : f ∈ fs) : ∃ g ∈ fs', g.nm = f.nm ∧ g.many = f.many ∧ g.kd = newKd cs f := by
  obtain ⟨i, hi⟩ := List.getElem?_of_mem hf
  have il := (List.getElem?_eq_some_iff.mp hi).1
  obtain ⟨g, hg⟩ : ∃ g, fs'[i]? = some g := ⟨_, List.getElem?_eq_getElem (by rw [R.len]; exact il)⟩
  exact ⟨g, List.mem_of_getElem? hg, R.at_ i f g hi hg⟩
theorem Rekind.names {cs : List (Str × Str)} {fs fs' : List Fn} (R : Rekind cs fs fs') : fs'.map (·.nm) = fs.map (·.nm) := by
  apply List.ext_getElem?
  intro j
  rw [List.getElem?_map, List.getElem?_map]
  by_cases jl : j < fs.length
  · have hf : fs[j]? = some fs[j] := List.getElem?_eq_getElem jl
    have hg : fs'[j]? = some (fs'[j]'(by rw [R.len]; exact jl)) := List.getElem?_eq_getElem _
    rw [hf, hg]
    exact congrArg some (R.at_ j _ _ hf hg).1
  · rw [List.getElem?_eq_none (by rw [R.len]; omega), List.getElem?_eq_none (by omega)]
theorem Rekind.kind {cs : List (Str × Str)} {fs fs' : List Fn} (R : Rekind cs fs fs') (nd : (fs'.map (·.nm)).Nodup) {f : Fn} (hf : f ∈ fs) : kdOf fs' f.nm = newKd cs f := by
  obtain ⟨g, hg, e1, _, e3⟩ := R.find hf
  rw [← e1, kdOf_at nd hg, e3]
theorem Right.re {cs : List (Str × Str)} {fs fs' : List Fn} {ks : List Ask} (R : Rekind cs fs fs') (h : Right fs ks) : Right fs' ks :=
  ⟨h.one, fun k hk => by
    obtain ⟨h0, f, hf, e1, e2⟩ := h.ask k hk
    obtain ⟨g, hg, e3, e4, _⟩ := R.find hf
    exact ⟨h0, g, hg, e3.trans e1, e2.trans e4.symm⟩, h.asc⟩
theorem Right.used {fs : List Fn} {ks : List Ask} (h : Right fs ks) : ∀ k ∈ ks, k.fn ∈ fs.map (·.nm) := fun k hk => by
  obtain ⟨_, f, hf, e, _⟩ := h.ask k hk
  exact List.mem_map.mpr ⟨f, hf, e⟩
theorem look_bound {ks : List Ask} {z : Str} : ∀ {ys : List Str}, z ∈ ys → (ys.map (boundKv ks)).lookup z = some (bound ks z)
  | y :: ys, h => by
    rw [List.map_cons]
    unfold boundKv
    rw [List.lookup_cons]
    by_cases e : z = y
    · subst e
      rw [beq_self_eq_true]
    · have e1 : (z == y) = false := beq_eq_false_iff_ne.mpr e
      rw [e1]
      have h2 : z ∈ ys := by
        rcases List.mem_cons.mp h with w | w
        · exact absurd w e
        · exact w
      exact look_bound h2
theorem look_free {ks : List Ask} {z : Str} : ∀ {ys : List Str}, z ∉ ys → (ys.map (boundKv ks)).lookup z = none
  | [], _ => rfl
  | y :: ys, h => by
    rw [List.map_cons]
    unfold boundKv
    rw [List.lookup_cons]
    have e1 : (z == y) = false := beq_eq_false_iff_ne.mpr fun e => h (by rw [e]; exact List.mem_cons_self)
    rw [e1]
    exact look_free fun hm => h (List.mem_cons_of_mem _ hm)
/-- with the most bound kinds each label is right -/
theorem fit_after {ks : List Ask} {fs fs' : List Fn} {ys : List Str} (R : Rekind (ys.map (boundKv ks)) fs fs') (nd : (fs'.map (·.nm)).Nodup) (mem : ∀ z, z ∈ ys ↔ z ∈ ks.map (·.fn)) {z : Str} (hz : z ∈ fs.map (·.nm)) : fitsB ks z (kdOf fs' z) = true := by
  obtain ⟨f, hf, rfl⟩ := List.mem_map.mp hz
  rw [R.kind nd hf]
  unfold newKd
  by_cases hy : f.nm ∈ ys
  · rw [look_bound hy]
    exact (bound_mem ks f.nm).2
  · rw [look_free hy]
    exact fits_unused fun a ha e => hy ((mem _).mpr (List.mem_map.mpr ⟨a, ha, e⟩))
theorem kd_after {ks : List Ask} {fs fs' : List Fn} {ys : List Str} (R : Rekind (ys.map (boundKv ks)) fs fs') (nd : (fs'.map (·.nm)).Nodup) {z : Str} (hz : z ∈ fs.map (·.nm)) (hy : z ∈ ys) : kdOf fs' z = bound ks z := by
  obtain ⟨f, hf, rfl⟩ := List.mem_map.mp hz
  rw [R.kind nd hf]
  unfold newKd
  rw [look_bound hy]
  rfl
theorem wrong_empty {kd : Str → Str} {ks : List Ask} {ys : List Str} : (wrongD kd ks ys).isEmpty = true ↔ ∀ z ∈ ys, fitsB ks z (kd z) = true := by
  unfold wrongD
  rw [List.isEmpty_iff, List.map_eq_nil_iff, List.filter_eq_nil_iff]
  constructor
  · intro h z hz
    have := h z hz
    cases e : fitsB ks z (kd z) with
    | true => rfl
    | false =>
      rw [e] at this
      exact absurd rfl this
  · intro h z hz
    rw [h z hz]
    exact Bool.false_ne_true
theorem hist_wrong {kd : Str → Str} {ks : List Ask} {ys : List Str} (hn : ∀ a ∈ ks, a.fn ∈ ys) : histB kd ks = (wrongD kd ks ys).isEmpty := by
  rw [Bool.eq_iff_iff, wrong_empty]
  exact hist_labels hn
theorem filter_one {p : Str → Bool} {z : Str} : ∀ {l : List Str}, l.Nodup → z ∈ l → p z = true → (∀ y ∈ l, y ≠ z → p y = false) → l.filter p = [z]
  | y :: r, nd, hz, hp, hq => by
    rw [List.nodup_cons] at nd
    by_cases e : y = z
    · subst e
      rw [List.filter_cons_of_pos hp]
      have : r.filter p = [] := by
        rw [List.filter_eq_nil_iff]
        intro x hx
        have ne : x ≠ y := fun w => nd.1 (by rw [← w]; exact hx)
        rw [hq x (List.mem_cons_of_mem _ hx) ne]
        exact Bool.false_ne_true
      rw [this]
    · have h2 : z ∈ r := by
        rcases List.mem_cons.mp hz with w | w
        · exact absurd w.symm e
        · exact w
      rw [List.filter_cons_of_neg (by rw [hq y List.mem_cons_self e]; exact Bool.false_ne_true)]
      exact filter_one nd.2 h2 hp fun x hx => hq x (List.mem_cons_of_mem _ hx)
theorem wrong_one {kd : Str → Str} {ks : List Ask} {ys : List Str} {z : Str} (nd : ys.Nodup) (hz : z ∈ ys) (h0 : fitsB ks z (kd z) = false) (h1 : ∀ y ∈ ys, y ≠ z → fitsB ks y (kd y) = true) : wrongD kd ks ys = [rowD kd ks z] := by
  unfold wrongD
  rw [filter_one (z := z) nd hz (by rw [h0]; rfl) fun y hy ne => by rw [h1 y hy ne]; rfl]
  rfl
/-! ### the rows as data -/
theorem kn_ok : ∀ z ∈ KN, PyData.strOk z = true ∧ z.length ≤ 8 := by decide +kernel
theorem lay_pair (o : Option (Nat × Nat)) : (pairD o).canLay0 = true ∧ (pairD o).depth ≤ 1 := by
  cases o with
  | none => exact ⟨rfl, by decide⟩
  | some p => exact ⟨by simp [pairD, PyData.canLay0, PyData.canLayAll0], by simp [pairD, PyData.depth, PyData.depthAll]⟩
theorem lay_row {kd : Str → Str} {ks : List Ask} {z : Str} (h1 : PyData.strOk z = true) (h2 : PyData.strOk (kd z) = true) : (rowD kd ks z).canLay0 = true ∧ (rowD kd ks z).depth ≤ 2 := by
  obtain ⟨a, b⟩ := lay_pair (refute ks z (kd z))
  unfold rowD
  constructor
  · simp [PyData.canLay0, PyData.canLayAll0, h1, h2, a]
  · simp only [PyData.depth, PyData.depthAll]
    omega
theorem lay_rows {kd : Str → Str} {ks : List Ask} : ∀ {ys : List Str}, (∀ z ∈ ys, PyData.strOk z = true ∧ PyData.strOk (kd z) = true) → PyData.canLayAll0 (ys.map (rowD kd ks)) = true ∧ PyData.depthAll (ys.map (rowD kd ks)) ≤ 2
  | [], _ => ⟨by simp [PyData.canLayAll0], by simp [PyData.depthAll]⟩
  | z :: ys, h => by
    obtain ⟨a, b⟩ := lay_row (kd := kd) (ks := ks) (h z List.mem_cons_self).1 (h z List.mem_cons_self).2
    obtain ⟨c, d⟩ := lay_rows (kd := kd) (ks := ks) (ys := ys) fun x hx => h x (List.mem_cons_of_mem _ hx)
    rw [List.map_cons]
    exact ⟨by simp only [PyData.canLayAll0, a, c]; rfl, by simp only [PyData.depthAll]; omega⟩
theorem shaped_wrong {kd : Str → Str} {ks : List Ask} {ys : List Str} (h : ∀ z ∈ ys, PyData.strOk z = true ∧ PyData.strOk (kd z) = true) : SeqAt.shaped (.list (wrongD kd ks ys)) = true := by
  obtain ⟨a, b⟩ := lay_rows (kd := kd) (ks := ks) (ys := ys.filter fun z => !fitsB ks z (kd z)) fun z hz => h z (List.mem_filter.mp hz).1
  unfold SeqAt.shaped wrongD
  rw [PyData.canLay0, a, PyData.depth]
  have : decide (PyData.depthAll ((ys.filter fun z => !fitsB ks z (kd z)).map (rowD kd ks)) + 1 ≤ 64) = true := decide_eq_true (by omega)
  rw [this]
  rfl
theorem eqv_empty : ∀ ds : List PyData, PyData.eqv (.list ds) (.list []) = ds.isEmpty
  | [] => by simp [PyData.eqv, PyData.eqvAll]
  | d :: ds => by simp [PyData.eqv, PyData.eqvAll]
theorem shown_small : ∀ i < 40, (PyData.shown (.int ((i : Nat) : Int))).length ≤ 13 ∧ (PyData.int ((i : Nat) : Int)).showable = true ∧ (PyData.int ((i : Nat) : Int)).weight ≤ 6 := by decide +kernel
theorem shw_row {kd : Str → Str} {ks : List Ask} {z : Str} {i j : Nat} (h1 : PyData.strOk z = true) (l1 : z.length ≤ 8) (h2 : PyData.strOk (kd z) = true) (l2 : (kd z).length ≤ 8) (hr : refute ks z (kd z) = some (i, j)) (hj : j < 40) (hi : i < j) :
    Shw (.list [rowD kd ks z]) := by
  obtain ⟨a, b⟩ := lay_row (kd := kd) (ks := ks) h1 h2
  obtain ⟨i1, i2, i3⟩ := shown_small i (by omega)
  obtain ⟨j1, j2, j3⟩ := shown_small j hj
  have can : (PyData.list [rowD kd ks z]).canLay0 = true := by
    simp only [PyData.canLay0, PyData.canLayAll0, a]
    rfl
  have big : ∀ x : Str, PyData.strOk x = true → (x.cps.toList.all fun c => decide (c < 16 ^ 8)) = true := fun x hx => by
    unfold PyData.strOk at hx
    rw [← Array.all_toList, List.all_eq_true] at hx
    rw [List.all_eq_true]
    intro c hc
    have h3 : c < 1114112 := of_decide_eq_true (hx c hc)
    exact decide_eq_true (Nat.lt_trans h3 (by decide))
  refine ⟨.inr ⟨_, rfl⟩, ?_, PySem.SeqAt.eqv_refl _ can, ?_, ?_, ?_, ?_⟩
  · unfold SeqAt.shaped
    rw [can]
    have : decide ((PyData.list [rowD kd ks z]).depth ≤ 64) = true := decide_eq_true (by simp only [PyData.depth, PyData.depthAll]; omega)
    rw [this]
    rfl
  · unfold rowD pairD
    rw [hr]
    simp only [PyData.showable, PyData.showableAll] at i2 j2 ⊢
    rw [i2, j2]
    rfl
  · unfold rowD pairD
    rw [hr]
    rfl
  · simp only [PyData.depth, PyData.depthAll]
    omega
  · have hs : (PyData.list [rowD kd ks z]).leavesShort 13 = true := by
      unfold rowD pairD
      rw [hr]
      simp only [PyData.leavesShort, PyData.leavesShortAll, big z h1, big (kd z) h2]
      rw [decide_eq_true i1, decide_eq_true j1]
      rfl
    have hl := PyData.shown_le 13 (by decide) _ hs
    have hw : (PyData.list [rowD kd ks z]).weight ≤ 40 := by
      unfold rowD pairD
      rw [hr]
      have e1 : z.cps.size ≤ 8 := l1
      have e2 : (kd z).cps.size ≤ 8 := l2
      simp only [PyData.weight, PyData.weightAll] at i3 j3 ⊢
      omega
    exact Nat.le_of_lt (small1000 (by omega))
end K17
set_option Elab.async false
set_option linter.all false
set_option maxRecDepth 100000
set_option maxHeartbeats 8000000
namespace K17
open PySem PySem.Spec PyProof.Rows L2 PpSet
/-! ### the law's walk -/
/-- all defs that the law calls, as it calls them -/
structure Calls17 (P : Program) (w : World) (K : PySem.W.Frag) (mg : Str → Option Value) (base : Heap) (C : Addr) : Prop where
  refuting : Cal P w K mg base 2 "refuting" spRefuting
  most : Cal P w K mg base 4 "most_bound" spMostBound
  wrong : Cal P w K mg base 4 "wrong_labels" (spWrong K C)
  hist : Cal P w K mg base 4 "is_history" (spIsHist C)
  bag : Cal P w K mg base 1 "_law_bag" (spBag K)
  drawn : Cal P w K mg base 6 "_law_drawn" (spDrawn C)
  asks : Cal P w K mg base 2 "_law_asks" spAsks
  kept : Cal P w K mg base 3 "_law_kept_right" spKept
  alike : CalG P w K mg base 1 "_law_alike" (spAlike K)
  kind : Met P w K mg base 1 C "kind" (spKind C)
  withKinds : Met P w K mg base 6 C "with_kinds" (spWithKinds C)
def spLaw (K : PySem.W.Frag) : Sp := fun vs H Q _ => ∃ (a : Addr) (ns : List Int), vs = [.ref a] ∧ SqL K H a (ns.map V.int) ∧ ∀ H', Q (.bl true) H'
/-- the kinds that would be bound more than the most bound that fits -/
theorem over_list (ks : List Ask) (z : Str) : ∃ L : List Str, (∀ kd ∈ L, kd ∈ KN ∧ fitsB ks z kd = false) ∧ L.length ≤ 2 ∧
    ((bound ks z = "fixed" ∧ L = []) ∨ (bound ks z = "stable" ∧ L = [("fixed" : Str)]) ∨ (bound ks z = "changing" ∧ L = [("fixed" : Str), "stable"])) := by
  rcases bound_cases ks z with h | ⟨h, h1⟩ | ⟨h, h1, h2⟩
  · exact ⟨[], (fun kd hk => nomatch hk), by decide, .inl ⟨h, rfl⟩⟩
  · exact ⟨[("fixed" : Str)], fun kd hk => (by rw [List.mem_singleton.mp hk]; exact ⟨by simp, h1⟩), by decide, .inr (.inl ⟨h, rfl⟩)⟩
  · refine ⟨[("fixed" : Str), "stable"], fun kd hk => ?_, by decide, .inr (.inr ⟨h, rfl⟩)⟩
    rcases List.mem_cons.mp hk with e | e
    · rw [e]
      exact ⟨by simp, h1⟩
    · rw [List.mem_singleton.mp e]
      exact ⟨by simp, h2⟩
theorem Bag.full {H : Hp} {b c : Addr} (h : Bag H b c) : ∃ y ys, H b = some (.lst (y :: ys)) := by
  obtain ⟨x, y, z, cells, h1, _⟩ := h
  exact ⟨_, _, h1⟩
theorem Sch.kb {C b x : Addr} {H H' : Hp} {fs : List Fn} {y : V} {ys : List V} (k : Keep b H H') (hb : H b = some (.lst (y :: ys))) (S : Sch C H x fs) : Sch C H' x fs := by
  obtain ⟨⟨dx, dc, ds, dk, lr, lm, h1, h2, h3, h4, h5, h6⟩, nd, g, few⟩ := S
  have ne : ∀ l, H l = some (.lst []) → l ≠ b := fun l e z => by
    rw [z, hb] at e
    cases e
  exact ⟨⟨dx, dc, ds, dk, lr, lm, k _ _ (ne_of h1 hb (by intro z; cases z)) h1, k _ _ (ne_of h2 hb (by intro z; cases z)) h2, h3.kb k hb, k _ _ (ne_of h4 hb (by intro z; cases z)) h4, k _ _ (ne lr h5) h5, k _ _ (ne lm h6) h6⟩, nd, g, few⟩
abbrev dispK (a b : Addr) : List (Key × V) := [(Sum.inr "stable", .ref a), (Sum.inr "changing", .ref b)]
theorem disp_merge (a b : Addr) : mergeK [] (dispK a b) = dispK a b := merge_nil (by
  show [(Sum.inr "stable" : Key), Sum.inr "changing"].Nodup
  decide +kernel)
theorem one_merge (z kd : Str) : mergeK [] [(Sum.inr z, V.str kd)] = [(z, kd)].map kvC := merge_nil (List.nodup_cons.mpr ⟨(fun h => nomatch h), List.nodup_nil⟩)
theorem Right.ns {fs : List Fn} {ks : List Ask} {ys : List Str} (h : Right fs ks) (pm : ys.Perm (fs.map (·.nm))) : ∀ a ∈ ks, a.fn ∈ ys := fun a ha => pm.mem_iff.mpr (h.used a ha)
theorem names_txt {fs : List Fn} (nd : (fs.map (·.nm)).Nodup) (good : ∀ f ∈ fs, FnGood f) {z : Str} (hz : z ∈ fs.map (·.nm)) : NameOk z ∧ kdOf fs z ∈ KN := by
  obtain ⟨f, hf, rfl⟩ := List.mem_map.mp hz
  rw [kdOf_at nd hf]
  exact ⟨(good f hf).nm, (good f hf).kd⟩
theorem shaped_names {fs : List Fn} (nd : (fs.map (·.nm)).Nodup) (good : ∀ f ∈ fs, FnGood f) {ks : List Ask} {ys : List Str} (pm : ys.Perm (fs.map (·.nm))) : SeqAt.shaped (.list (wrongD (kdOf fs) ks ys)) = true :=
  shaped_wrong fun z hz => by
    obtain ⟨a, b⟩ := names_txt nd good (pm.mem_iff.mp hz)
    exact ⟨a.txt, (kn_ok _ b).1⟩
theorem lookup_one {z y kd : Str} (h : y ≠ z) : [(z, kd)].lookup y = none := by
  rw [List.lookup_cons, show (y == z) = false from beq_eq_false_iff_ne.mpr h]
  rfl
theorem lookup_self {z kd : Str} : [(z, kd)].lookup z = some kd := by
  rw [List.lookup_cons, beq_self_eq_true]
section
variable {base : Heap} {mg : Str → Option Value} {K : PySem.W.Frag} {w : World} {P : Program}
def teMany (K : PySem.W.Frag) : TE := tOp (rIxT K) (tDGet (tVar 3) (tVar 9)) (tC (.int 0))
theorem run_law {C fa : Addr} {fd : FuncData} (B : Bi mg) (T : Cl K mg C) (c : Calls17 P w K mg base C) (F : Fun K "law" "law" sLaw fa fd) : RunG P w K mg base 7 fa fd pLaw (spLaw K) := by
  refine runG_of F scLaw (fun vs H Q E h => ?_) (fun cdv A outer s H vs Q E hr hg h => ?_)
  · obtain ⟨a, ns, rfl, _⟩ := h
    rfl
  · obtain ⟨a, ns, rfl, ha, q⟩ := h
    have hu := hu_of hr
    refine ⟨_, pss_cons (ps_set (i := 1) scLaw.nd rfl (.inl rfl) (pe_cl c.bag hr (by decide) (by rfl) (pa_cons (pv 0) pa_nil)))
      (pss_cons (ps_for PassesOwn.never rfl (pi_range1 (by rfl) B.range (pa_cons pe_int pa_nil)) (pg_name (i := 2) scLaw.nd rfl (.inl rfl))
        (pss_cons (ps_asg (pe_cl c.drawn hr (by decide) (by rfl) (pa_cons (pv 1) pa_nil)) (pg_tup rfl (pgs_cons (pg_name (i := 3) scLaw.nd rfl (.inr rfl)) (pgs_cons (pg_name (i := 4) scLaw.nd rfl (.inl rfl)) (pgs_cons (pg_name (i := 5) scLaw.nd rfl (.inl rfl)) pgs_nil)))))
        (pss_cons (ps_set (i := 6) scLaw.nd rfl (.inl rfl) (pe_cl c.asks hr (by decide) (by rfl) (pa_cons (pv 1) (pa_cons (pv 3) (pa_cons pe_int pa_nil)))))
        (pss_cons (ps_if (pt_not (pt_val (pe_clG c.alike hr (by decide) hg (by rfl) (pa_cons (pe_cl c.hist hr (by decide) (by rfl) (pa_cons (pv 4) (pa_cons (pv 6) pa_nil)))
            (pa_cons (pe_cmpR (op_eqD hr.units) (pe_cl c.wrong hr (by decide) (by rfl) (pa_cons (pv 4) (pa_cons (pv 6) pa_nil))) (pe_lst pa_nil) (nomark _)) pa_nil))))) (pss_one (ps_ret pe_bl)) pss_nil)
        (pss_cons (ps_set (i := 7) scLaw.nd rfl (.inl rfl) (pe_cl c.most hr (by decide) (by rfl) (pa_cons (pv 6) pa_nil)))
        (pss_cons (ps_set (i := 8) scLaw.nd rfl (.inr rfl) (pe_mc c.withKinds T.cl hr (by decide) (pv 4) (pa_cons (pv 7) pa_nil)))
        (pss_cons (ps_if (PW.pt (pw_or (pt_not (pt_val (pe_cl c.hist hr (by decide) (by rfl) (pa_cons (pv 8) (pa_cons (pv 6) pa_nil)))))
            (pw_or1 (pt_cmpR (op_neD hr.units) (pe_cl c.wrong hr (by decide) (by rfl) (pa_cons (pv 8) (pa_cons (pv 6) pa_nil))) (pe_lst pa_nil) (nomark _))))) (pss_one (ps_ret pe_bl)) pss_nil)
        (pss_cons (ps_set (i := 10) scLaw.nd rfl (.inl rfl) (pe_callTy (call_dictP rfl) (by rfl) B.dict (by decide +kernel) (pa_cons
          (pe_lock (pe_lc (own := [("_law_name", 9)]) (g := gName 9) (tt := tYes)
            (te := tTup (tCons (tVar 9) (tCons (tTup (tCons (teMany K) (tCons (tMeth C "kind" (spKind C) [] L2.E0 (tVar 8) (tCons (tVar 9) tNil)) tNil))) tNil))) rfl scLaw.nd (pi_keys (pv 3)) (blkOk_by (N := nLaw) (sc := defScope sLaw) (by decide +kernel))
            (fun _ _ _ _ _ => pg_name (i := 9) scLaw.nd rfl (Or.inl rfl)) (fun _ _ _ _ _ => pts_nil)
            (fun _ _ _ _ _ => pe_tup (pa_cons (pv 9) (pa_cons (pe_tup (pa_cons (pe_ix ix_tup (pe_dget hu (pv 3) (pv 9) (fun _ _ => rfl)) pe_int (fun _ _ => rfl)) (pa_cons (pe_mc c.kind T.cl hr (by decide) (pv 8) (pa_cons (pv 9) pa_nil)) pa_nil))) pa_nil))))) pa_nil)))
        (pss_cons (ps_if (pt_not (pt_val (pe_cl c.kept hr (by decide) (by rfl) (pa_cons (pv 10) (pa_cons (pv 8) (pa_cons (pv 6) pa_nil)))))) (pss_one (ps_ret pe_bl)) pss_nil)
        (pss_one (ps_for PassesOwn.never rfl (pi_list (pe_callB (call_sortedD rfl) (by rfl) B.sorted (by decide +kernel) (pa_cons (pv 7) pa_nil))) (pg_name (i := 9) scLaw.nd rfl (.inl rfl))
          (pss_one (ps_for PassesOwn.never rfl (pi_list (pe_dget2 hu (pe_disp (pps_cons pe_str (pe_lst (pa_cons pe_str pa_nil)) (pps_cons pe_str (pe_lst (pa_cons pe_str (pa_cons pe_str pa_nil))) pps_nil)) rfl rfl (by simp) (by decide))
              (pe_dget hu (pv 7) (pv 9) (fun _ _ => rfl)) (pe_lst pa_nil) ⟨rfl, rfl, rfl, rfl⟩)) (pg_name (i := 11) scLaw.nd rfl (.inl rfl))
            (pss_cons (ps_set (i := 12) scLaw.nd rfl (.inl rfl) (pe_mc c.withKinds T.cl hr (by decide) (pv 8) (pa_cons (pe_disp (pps_cons (pv 9) (pv 11) pps_nil) rfl rfl (by simp) (by decide)) pa_nil)))
            (pss_cons (ps_set (i := 13) scLaw.nd rfl (.inl rfl) (pe_lst (pa_cons (pe_tup (pa_cons (pv 9) (pa_cons (pv 11) (pa_cons (pe_cl c.refuting hr (by decide) (by rfl) (pa_cons (pv 6) (pa_cons (pv 9) (pa_cons (pv 11) pa_nil)))) pa_nil)))) pa_nil)))
            (pss_one (ps_if (PW.pt (pw_or (pt_val (pe_cl c.hist hr (by decide) (by rfl) (pa_cons (pv 12) (pa_cons (pv 6) pa_nil))))
              (pw_or1 (pt_not (pt_val (pe_clG c.alike hr (by decide) hg (by rfl) (pa_cons (pe_cl c.wrong hr (by decide) (by rfl) (pa_cons (pv 12) (pa_cons (pv 6) pa_nil))) (pa_cons (pv 13) pa_nil)))))))) (pss_one (ps_ret pe_bl)) pss_nil)))))))))))))))))
      (pss_one (ps_ret pe_bl))), ?_⟩
    refine ⟨_, rfl, a, ns, rfl, ha, fun H1 b bc s1 nb g1 => ?_⟩
    refine ⟨3, rfl, by decide, by decide, for_it (walk_range (lo := 0) (n := (3 : Int).toNat)) (fun i σ H' => ∃ x2 x3 x4 x5 x6 x7 x8 x9 x10 x11 x12 x13, σ = [some (.ref a), some (.ref b), x2, x3, x4, x5, x6, x7, x8, x9, x10, x11, x12, x13] ∧ Bag H' b bc)
      ⟨none, none, none, none, none, none, none, none, none, none, none, none, rfl, g1⟩ (fun _ _ _ _ _ => trivial) ?_ ?_⟩
    · rintro i y σ H2' H2 hi ⟨x2, x3, x4, x5, x6, x7, x8, x9, x10, x11, x12, x13, rfl, g2⟩ ⟨rfl, rfl⟩
      -- functions, schema
      refine ⟨_, rfl, b, bc, rfl, g2, fun H3 tp d x kp fs k3 g3 etp F3 S3 low => ⟨tp, _, rfl, SqT.of etp, rfl, .ref d, _, rfl, .ref x, _, rfl, .ref kp, [], rfl, rfl, ?_⟩⟩
      obtain ⟨bh3, bs3, hb3⟩ := g3.full
      have nd := S3.nd
      have good := S3.good
      have few := S3.few
      -- history
      refine ⟨_, rfl, _, rfl, b, bc, d, fs, rfl, g3, F3, nd, good, low, few, fun H4 h ts ks k4 g4 nh nhb X4 R => ?_⟩
      have F4 := F3.kb k4 hb3
      have S4 := S3.kb k4 hb3
      -- asks in order are a right history exactly if no label is wrong
      refine ⟨_, rfl, _, rfl, x, h, fs, ts, ks, rfl, S4, X4, R, fun H5 s45 => ?_⟩
      refine ⟨_, rfl, _, rfl, x, h, fs, ts, ks, rfl, S4.same s45, X4.same s45, fun H6 p ys s56 np pm dp => ?_⟩
      refine ⟨by show 0 ≤ sizeLine; decide, fun l nl => ?_⟩
      have s67 := sm_new (o := .lst []) (.refl H6) nl
      refine ⟨.list (wrongD (kdOf fs) ks ys), .list [], dp_same s67 dp, .lst (SqL.of upd_same) .nil, shaped_names nd good pm, shaped_none, ?_⟩
      rw [eqv_empty, ← hist_wrong (R.ns pm)]
      refine ⟨_, _, .bool (histB (kdOf fs) ks), rfl, .bl _, .bl _, shw_bool _, true, rfl, iteF ?_⟩
      have s47 := (s45.trans s56).trans s67
      revert s47
      generalize upd H6 l (.lst []) = H7
      intro s47
      -- the most bound kinds
      refine ⟨_, rfl, h, ts, ks, rfl, X4.same s47, fun H8 bk zs s78 nbk ndz memz lenz ebk => ?_⟩
      have s48 := s47.trans s78
      obtain ⟨dx8, _, _, _, _, _, hx8, _⟩ := (S4.same s48).ex
      refine ⟨_, rfl, x, dx8, _, rfl, hx8, rfl, _, rfl, x, bk, fs, zs.map (boundKv ks), rfl, S4.same s48, ebk, by rw [List.length_map]; omega, fun cc hc => ?_, fun H9 y fs' s89 S9 RK => ?_⟩
      · obtain ⟨z, hz, rfl⟩ := List.mem_map.mp hc
        obtain ⟨k, hk, e⟩ := List.mem_map.mp ((memz z).mp hz)
        exact ⟨by rw [← e]; exact R.used k hk, (bound_mem ks z).1⟩
      have s49 := s48.trans s89
      have nd' := S9.nd
      have good' := S9.good
      have R' := R.re RK
      have fitA : ∀ z ∈ fs.map (·.nm), fitsB ks z (kdOf fs' z) = true := fun z hz => fit_after RK nd' memz hz
      have nmE := RK.names
      have hh' : histB (kdOf fs') ks = true := (hist_labels R.used).mpr fitA
      refine ⟨_, rfl, _, rfl, y, h, fs', ts, ks, rfl, S9, X4.same s49, R', fun H10 s910 => ⟨_, rfl, ?_⟩⟩
      rw [hh']
      refine iteF ?_
      refine ⟨_, rfl, _, rfl, y, h, fs', ts, ks, rfl, S9.same s910, X4.same (s49.trans s910), fun H11 p2 ys2 s1011 np2 pm2 dp2 => ?_⟩
      refine ⟨by show 0 ≤ sizeLine; decide, fun l2 nl2 => ?_⟩
      have s1112 := sm_new (o := .lst []) (.refl H11) nl2
      refine ⟨.list (wrongD (kdOf fs') ks ys2), .list [], dp_same s1112 dp2, .lst (SqL.of upd_same) .nil, shaped_names nd' good' pm2, shaped_none, _, rfl, ?_⟩
      rw [eqv_empty, wrong_empty.mpr (fun z hz => fitA z (by rw [← nmE]; exact pm2.mem_iff.mp hz))]
      refine iteF ?_
      have s912 := (s910.trans s1011).trans s1112
      revert s912
      generalize upd H11 l2 (.lst []) = H12
      intro s912
      have s412 := s49.trans s912
      have F12 := F4.same s412
      have S12 := S9.same s912
      -- the dict of the kinds
      refine ⟨d, _, F12.dk, trivial, fun od => ⟨_, rfl, d, od, rfl, .inl ⟨_, upd_same, fun D nD => ?_⟩⟩⟩
      have SL := S12.locked (od := od) F12.dk
      refine lc_it (walk_keys (kvs := fs.map kvF)) (fun i H' => Same (upd H12 d (.frz od (.dK (fs.map kvF)))) H' ∧ ∃ (ps : List Addr) (gs : List Fn), ps.length = i ∧ gs.length = i ∧ H' D = some (.lst (ps.map V.ref)) ∧
          (∀ (j : Nat) (p : Addr) (g : Fn), ps[j]? = some p → gs[j]? = some g → H' p = some (.tup [.str g.nm, .ref g.at_]) ∧ H' g.at_ = some (.tup [.int (g.many : Nat), .str g.kd])) ∧
          ∀ (j : Nat) (f g : Fn), fs'[j]? = some f → gs[j]? = some g → g.nm = f.nm ∧ g.many = f.many ∧ g.kd = f.kd)
        ⟨sm_new (.refl _) nD, [], [], rfl, rfl, upd_same, (fun j p g hp _ => by simp at hp), fun j f g _ hp => by simp at hp⟩ (fun _ _ _ z => z.1 _ _ upd_same) ?_ ?_
      · rintro i y' H13' H13 hi ⟨s13, ps, gs, lp, lg, eD, hp, hq⟩ ⟨rfl, k, v, hkv, rfl⟩
        rw [List.length_map] at hi
        obtain ⟨f, hf⟩ : ∃ f, fs[i]? = some f := ⟨_, List.getElem?_eq_getElem hi⟩
        obtain ⟨f', hf'⟩ : ∃ f', fs'[i]? = some f' := ⟨_, List.getElem?_eq_getElem (by rw [RK.len]; exact hi)⟩
        obtain ⟨a1, a2, a3⟩ := RK.at_ i f f' hf hf'
        have mf : f ∈ fs := List.mem_of_getElem? hf
        have mf' : f' ∈ fs' := List.mem_of_getElem? hf'
        rw [List.getElem?_map, hf] at hkv
        cases hkv
        have ed := s13 _ _ upd_same
        have v1 : DGet H13 d (.str f.nm) (some (.ref f.at_)) := .inl ⟨fs.map kvF, Sum.inr f.nm, .inr ⟨od, ed⟩, rfl, (fn_val nd mf).symm⟩
        have ef : H13 f.at_ = some (.tup [.int (f.many : Nat), .str f.kd]) := s13 _ _ ((upd_ne (ne_of (F12.at_ f mf) F12.dk (by intro z; cases z))).trans (F12.at_ f mf))
        obtain ⟨dy, _, _, _, _, _, hy, _⟩ := (SL.same s13).ex
        refine ⟨rfl, _, rfl, _, rfl, _, rfl, d, _, rfl, v1, f.at_, _, 0, .int (f.many : Nat), rfl, rfl, SqT.of ef, rfl, ?_⟩
        refine ⟨_, rfl, y, dy, _, rfl, hy, rfl, _, rfl, y, fs', f', by rw [a1]; rfl, SL.same s13, mf', ?_⟩
        refine ⟨by show 2 ≤ sizeLine; decide, fun p1 np1 => ⟨by show 2 ≤ sizeLine; decide, fun p2 np2 => ?_⟩⟩
        have s14 := sm_new (o := .tup [.int (f.many : Nat), .str f'.kd]) s13 np1
        have s15 := sm_new (o := .tup [.str f.nm, .ref p1]) s14 np2
        have eD15 := keep1 (u := .tup [.str f.nm, .ref p1]) (keep1 (u := .tup [.int (f.many : Nat), .str f'.kd]) eD np1) np2
        have n1D : p1 ≠ D := fun z => by
          rw [z, eD] at np1
          cases np1
        have n2D : p2 ≠ D := fun z => by
          rw [z, keep1 eD np1] at np2
          cases np2
        refine ⟨_, eD15, ?_, sm_put s15 nD, ps ++ [p2], gs ++ [(⟨f.nm, f.many, f'.kd, p1⟩ : Fn)], by rw [List.length_append, lp]; rfl, by rw [List.length_append, lg]; rfl, ?_, ?_, ?_⟩
        · rw [List.length_map]
          exact small1000 (by omega)
        · rw [upd_same, List.map_append]
          rfl
        · intro j p' g' hp' hg'
          by_cases hj : j < ps.length
          · rw [List.getElem?_append_left hj] at hp'
            rw [List.getElem?_append_left (by omega)] at hg'
            obtain ⟨q1, q2⟩ := hp j p' g' hp' hg'
            exact ⟨(upd_ne (ne_of q1 eD (by intro z; cases z))).trans (keep1 (keep1 q1 np1) np2), (upd_ne (ne_of q2 eD (by intro z; cases z))).trans (keep1 (keep1 q2 np1) np2)⟩
          · have hj' : j = i := by
              have := (List.getElem?_eq_some_iff.mp hp').1
              rw [List.length_append] at this
              have : j < ps.length + 1 := this
              omega
            subst hj'
            rw [List.getElem?_append_right (by omega), lp, Nat.sub_self] at hp'
            rw [List.getElem?_append_right (by omega), lg, Nat.sub_self] at hg'
            cases hp'
            cases hg'
            exact ⟨(upd_ne n2D).trans upd_same, (upd_ne n1D).trans (keep1 upd_same np2)⟩
        · intro j f0 g' hf0 hg'
          by_cases hj : j < gs.length
          · rw [List.getElem?_append_left hj] at hg'
            exact hq j f0 g' hf0 hg'
          · have hj' : j = i := by
              have := (List.getElem?_eq_some_iff.mp hg').1
              rw [List.length_append] at this
              have : j < gs.length + 1 := this
              omega
            subst hj'
            rw [List.getElem?_append_right (by omega), lg, Nat.sub_self] at hg'
            cases hg'
            rw [hf'] at hf0
            cases hf0
            exact ⟨a1.symm, a2.symm, rfl⟩
      rintro H13 ⟨s13, ps, gs, lp, lg, eD, hp, hq⟩
      rw [List.length_map] at lp lg
      refine ⟨s13 _ _ upd_same, ?_⟩
      have s1214 := lock_same F12.dk s13
      have neD : D ≠ d := fun z => by
        rw [z, upd_same] at nD
        cases nD
      have eD2 : (upd H13 d (.dK (fs.map kvF))) D = some (.lst (ps.map V.ref)) := (upd_ne neD).trans eD
      have hp2 : ∀ (j : Nat) (p : Addr) (g : Fn), ps[j]? = some p → gs[j]? = some g → (upd H13 d (.dK (fs.map kvF))) p = some (.tup [.str g.nm, .ref g.at_]) ∧ (upd H13 d (.dK (fs.map kvF))) g.at_ = some (.tup [.int (g.many : Nat), .str g.kd]) := fun j p g a b => by
        obtain ⟨q1, q2⟩ := hp j p g a b
        exact ⟨(upd_ne (ne_of q1 (s13 _ _ upd_same) (by intro z; cases z))).trans q1, (upd_ne (ne_of q2 (s13 _ _ upd_same) (by intro z; cases z))).trans q2⟩
      revert s1214 eD2 hp2
      generalize upd H13 d (.dK (fs.map kvF)) = H14
      intro s1214 eD2 hp2
      have pairE : gs.map (fun f : Fn => (f.nm, f.kd)) = fs'.map (fun f : Fn => (f.nm, f.kd)) ∧ gs.map (·.nm) = fs'.map (·.nm) := by
        have at_ : ∀ j, gs[j]?.map (fun f : Fn => (f.nm, f.kd)) = fs'[j]?.map (fun f : Fn => (f.nm, f.kd)) := fun j => by
          by_cases jl : j < fs.length
          · obtain ⟨g, hg'⟩ : ∃ g, gs[j]? = some g := ⟨_, List.getElem?_eq_getElem (by omega)⟩
            obtain ⟨f', hf'⟩ : ∃ f', fs'[j]? = some f' := ⟨_, List.getElem?_eq_getElem (by rw [RK.len]; exact jl)⟩
            obtain ⟨b1, b2, b3⟩ := hq j f' g hf' hg'
            rw [hg', hf']
            show some (g.nm, g.kd) = some (f'.nm, f'.kd)
            rw [b1, b3]
          · rw [List.getElem?_eq_none (by omega), List.getElem?_eq_none (by rw [RK.len]; omega)]
        have e1 : gs.map (fun f : Fn => (f.nm, f.kd)) = fs'.map (fun f : Fn => (f.nm, f.kd)) := List.ext_getElem? fun j => by rw [List.getElem?_map, List.getElem?_map, at_ j]
        refine ⟨e1, ?_⟩
        have e2 := congrArg (List.map Prod.fst) e1
        rw [List.map_map, List.map_map] at e2
        exact e2
      refine ⟨D, ps, gs.map kvF, rfl, SqL.of eD2, paired_at (by rw [List.length_map, lp, lg]) fun j p kv hj hkv => ?_, fun dk' ndk => ?_⟩
      · rw [List.getElem?_map] at hkv
        cases hg' : gs[j]? with
        | none =>
          rw [hg'] at hkv
          cases hkv
        | some g =>
          rw [hg'] at hkv
          cases hkv
          exact SqT.of (hp2 j p g hj hg').1
      have ndg : (gs.map (·.nm)).Nodup := by
        rw [pairE.2]
        exact nd'
      rw [merge_nil (by rw [List.map_map]; exact (by rw [← List.map_map (f := fun f : Fn => f.nm)]; exact inr_nodup ndg : (gs.map ((fun z => (Sum.inr z : Key)) ∘ fun f : Fn => f.nm)).Nodup))]
      have s1415 := sm_new (o := .dK (gs.map kvF)) (.refl H14) ndk
      have Fg : Fns (upd H14 dk' (.dK (gs.map kvF))) dk' gs := ⟨upd_same, fun g mg' => by
        obtain ⟨j, hj⟩ := List.getElem?_of_mem mg'
        have jl := (List.getElem?_eq_some_iff.mp hj).1
        obtain ⟨p, hpj⟩ : ∃ p, ps[j]? = some p := ⟨_, List.getElem?_eq_getElem (by omega)⟩
        exact s1415 _ _ (hp2 j p g hpj hj).2⟩
      have goodG : ∀ g ∈ gs, FnGood g := fun g mg' => by
        obtain ⟨j, hj⟩ := List.getElem?_of_mem mg'
        have jl := (List.getElem?_eq_some_iff.mp hj).1
        obtain ⟨f', hf'⟩ : ∃ f', fs'[j]? = some f' := ⟨_, List.getElem?_eq_getElem (by rw [RK.len]; omega)⟩
        obtain ⟨b1, b2, b3⟩ := hq j f' g hf' hj
        have gf := good' f' (List.mem_of_getElem? hf')
        exact ⟨b1 ▸ gf.nm, b2 ▸ gf.many, b3 ▸ gf.kd⟩
      have s1215 := s1214.trans s1415
      revert s1215 Fg
      generalize upd H14 dk' (.dK (gs.map kvF)) = H15
      intro Fg s1215
      have s415 := s412.trans s1215
      -- the store
      refine ⟨_, rfl, _, rfl, _, rfl, dk', h, .ref y, gs, ts, ks, rfl, Fg, ndg, goodG, by omega, X4.same s415, fun k hk => ?_, ?_, fun H16 s1516 => ⟨true, rfl, iteF ?_⟩⟩
      · rw [pairE.2, nmE]
        exact R.used k hk
      · rw [kdOf_same pairE.1]
        exact hh'
      have s416 := s415.trans s1516
      have s916 := s912.trans (s1215.trans s1516)
      -- each used function
      have keyE : ((zs.map (boundKv ks)).map kvC).map (·.1) = zs.map Sum.inr := by
        rw [List.map_map, List.map_map]
        rfl
      refine ⟨_, rfl, bk, _, zs, rfl, .inl ((s89.trans s916) _ _ ebk), keyE, by omega, fun ms mp pm3 _ nmp => ?_⟩
      have s1617 := sm_new (o := .lst (ms.map V.str)) (.refl H16) nmp
      have emp : (upd H16 mp (.lst (ms.map V.str))) mp = some (.lst (ms.map V.str)) := upd_same
      have X17 := X4.same (s416.trans s1617)
      have S17 := S9.same (s916.trans s1617)
      have eb17 := ((s89.trans s916).trans s1617) _ _ ebk
      have g17 := g4.same (s416.trans s1617)
      revert X17 S17 emp eb17 g17
      generalize upd H16 mp (.lst (ms.map V.str)) = H17
      intro emp X17 S17 eb17 g17
      refine ⟨mp, rfl, ⟨_, SqL.of emp⟩, for_it (walk_list (xs := ms.map V.str)) (fun i σ H' => ∃ x2 x9 x11 x12 x13, σ = [some (.ref a), some (.ref b), x2, some (.ref d), some (.ref x), some (.ref kp), some (.ref h), some (.ref bk), some (.ref y), x9, some (.ref dk'), x11, x12, x13] ∧ Same H17 H')
        ⟨_, _, _, _, _, rfl, .refl H17⟩ (fun _ _ _ _ ⟨_, _, _, _, _, _, z⟩ => SqL.of (z _ _ emp)) ?_ ?_⟩
      · rintro i y' σ H18' H18 hi ⟨x2, x9, x11, x12, x13, rfl, s18⟩ ⟨rfl, hy'⟩
        obtain ⟨z, hz, rfl⟩ := map_getEq hy'
        have mz : z ∈ zs := pm3.mem_iff.mp (List.mem_of_getElem? hz)
        have mzn : z ∈ fs.map (·.nm) := by
          obtain ⟨k, hk, e⟩ := List.mem_map.mp ((memz z).mp mz)
          rw [← e]
          exact R.used k hk
        obtain ⟨L, hL, lL, cL⟩ := over_list ks z
        -- the kinds more bound
        refine fun dp ndp => ⟨by show 1 ≤ sizeLine; decide, fun l1 nl1 => ⟨by show 2 ≤ sizeLine; decide, fun l2 nl2 => ?_⟩⟩
        refine ⟨keep1 (keep1 upd_same nl1) nl2, dispK l1 l2, rfl, by show 2 ≤ 15; decide, ?_⟩
        rw [disp_merge]
        have q1 := sm_new (o := .dK []) (.refl H18) ndp
        have q2 := sm_new (o := .lst [V.str "fixed"]) q1 nl1
        have q3 := sm_new (o := .lst [V.str "fixed", V.str "stable"]) q2 nl2
        have q4 := sm_put (o := .dK (dispK l1 l2)) q3 ndp
        have edp : (upd (upd (upd (upd H18 dp (.dK [])) l1 (.lst [V.str "fixed"])) l2 (.lst [V.str "fixed", V.str "stable"])) dp (.dK (dispK l1 l2))) dp = some (.dK (dispK l1 l2)) := upd_same
        have n1 : l1 ≠ dp := fun w => by
          rw [w, upd_same] at nl1
          cases nl1
        have n2 : l2 ≠ dp := fun w => by
          rw [w, keep1 upd_same nl1] at nl2
          cases nl2
        have el1 : (upd (upd (upd (upd H18 dp (.dK [])) l1 (.lst [V.str "fixed"])) l2 (.lst [V.str "fixed", V.str "stable"])) dp (.dK (dispK l1 l2))) l1 = some (.lst [V.str "fixed"]) := (upd_ne n1).trans (keep1 upd_same nl2)
        have el2 : (upd (upd (upd (upd H18 dp (.dK [])) l1 (.lst [V.str "fixed"])) l2 (.lst [V.str "fixed", V.str "stable"])) dp (.dK (dispK l1 l2))) l2 = some (.lst [V.str "fixed", V.str "stable"]) := (upd_ne n2).trans upd_same
        revert q4 edp el1 el2
        generalize upd (upd (upd (upd H18 dp (.dK [])) l1 (.lst [V.str "fixed"])) l2 (.lst [V.str "fixed", V.str "stable"])) dp (.dK (dispK l1 l2)) = H19
        intro q4 edp el1 el2
        have s19 := s18.trans q4
        have vb : DGet H19 bk (.str z) (some (.str (bound ks z))) := by
          have v := DGet.k (k := Sum.inr z) (s19 _ _ eb17)
          rw [val_look, look_bound mz] at v
          exact v
        refine ⟨dp, rfl, .inl ⟨_, .inl edp⟩, _, rfl, _, rfl, bk, _, rfl, vb, by show 0 ≤ sizeLine; decide, fun l0 nl0 => ?_⟩
        have s20 := sm_new (o := .lst []) s19 nl0
        have edp20 := keep1 (u := .lst []) edp nl0
        refine ⟨valV (dispK l1 l2) (Sum.inr (bound ks z)), DGet.k (k := Sum.inr (bound ks z)) edp20, ?_⟩
        have pick : ∃ lk, (valV (dispK l1 l2) (Sum.inr (bound ks z))).getD (.ref l0) = .ref lk ∧ (upd H19 l0 (.lst [])) lk = some (.lst (L.map V.str)) := by
          rcases cL with ⟨e, rfl⟩ | ⟨e, rfl⟩ | ⟨e, rfl⟩
          · refine ⟨l0, ?_, upd_same⟩
            rw [e, show valV (dispK l1 l2) (Sum.inr "fixed") = none from by
              rw [valV_neg (fun w => by cases Sum.inr.inj w), valV_neg (fun w => by cases Sum.inr.inj w)]
              rfl]
            rfl
          · refine ⟨l1, ?_, keep1 el1 nl0⟩
            rw [e, valV_pos rfl]
            rfl
          · refine ⟨l2, ?_, keep1 el2 nl0⟩
            rw [e, valV_neg (fun w => by cases Sum.inr.inj w), valV_pos rfl]
            rfl
        obtain ⟨lk, elk, hlk⟩ := pick
        rw [elk]
        revert s20 hlk
        generalize upd H19 l0 (.lst []) = H20
        intro s20 hlk
        refine ⟨lk, rfl, ⟨_, SqL.of hlk⟩, for_it (walk_list (xs := L.map V.str)) (fun i σ H' => ∃ x11 x12 x13, σ = [some (.ref a), some (.ref b), x2, some (.ref d), some (.ref x), some (.ref kp), some (.ref h), some (.ref bk), some (.ref y), some (.str z), some (.ref dk'), x11, x12, x13] ∧ Same H20 H')
          ⟨_, _, _, rfl, .refl H20⟩ (fun _ _ _ _ ⟨_, _, _, _, w⟩ => SqL.of (w _ _ hlk)) ?_ ?_⟩
        · rintro j y' σ H21' H21 hj ⟨x11, x12, x13, rfl, s21⟩ ⟨rfl, hy'⟩
          obtain ⟨kd, hkd, rfl⟩ := map_getEq hy'
          obtain ⟨mkd, unfit⟩ := hL kd (List.mem_of_getElem? hkd)
          have s1721 := s20.trans s21
          have S21 := S17.same s1721
          -- the function told otherwise
          obtain ⟨dy, _, _, _, _, _, hy, _⟩ := S21.ex
          refine ⟨_, rfl, y, dy, _, rfl, hy, rfl, fun dq ndq => ⟨_, rfl, _, rfl, upd_same, [(Sum.inr z, V.str kd)], rfl, by show 1 ≤ 15; decide, ?_⟩⟩
          rw [one_merge]
          have t1 := sm_put (o := .dK ([(z, kd)].map kvC)) (sm_new (o := .dK []) (.refl H21) ndq) ndq
          have edq : (upd (upd H21 dq (.dK [])) dq (.dK ([(z, kd)].map kvC))) dq = some (.dK ([(z, kd)].map kvC)) := upd_same
          revert t1 edq
          generalize upd (upd H21 dq (.dK [])) dq (.dK ([(z, kd)].map kvC)) = H22
          intro t1 edq
          have mz' : z ∈ fs'.map (·.nm) := by
            rw [nmE]
            exact mzn
          refine ⟨y, dq, fs', [(z, kd)], rfl, S21.same t1, edq, by show 1 < 64; decide, fun cc hc => ?_, fun H23 y2 fs2 s2223 S23 RK2 => ?_⟩
          · rw [List.mem_singleton.mp hc]
            exact ⟨mz', mkd⟩
          have nd2 := S23.nd
          have good2 := S23.good
          have R2 := R'.re RK2
          have nmE2 := RK2.names
          have kdz : kdOf fs2 z = kd := by
            obtain ⟨f', hf', e⟩ := List.mem_map.mp mz'
            have h1 := RK2.kind nd2 hf'
            unfold newKd at h1
            rw [e, lookup_self] at h1
            exact h1
          have kdo : ∀ v ∈ fs'.map (·.nm), v ≠ z → fitsB ks v (kdOf fs2 v) = true := fun v hv ne => by
            obtain ⟨f', hf', e⟩ := List.mem_map.mp hv
            have h1 := RK2.kind nd2 hf'
            unfold newKd at h1
            rw [e, lookup_one ne, Option.getD_none, ← kdOf_at nd' hf', e] at h1
            rw [h1]
            exact fitA v (by rw [← nmE]; exact hv)
          have s1723 := (s1721.trans t1).trans s2223
          -- what is due
          refine ⟨_, rfl, _, rfl, _, rfl, _, rfl, _, rfl, h, z, kd, ts, ks, rfl, X17.same s1723, fun H24 s2324 => ⟨fun e => ?_, fun i0 j0 pp e npp epp => ?_⟩⟩
          · have : fitsB ks z kd = true := by
              unfold fitsB
              rw [e]
              rfl
            rw [unfit] at this
            cases this
          refine ⟨by show 3 ≤ sizeLine; decide, fun tp2 ntp2 => ⟨by show 1 ≤ sizeLine; decide, fun dl ndl => ?_⟩⟩
          have t25 := sm_new (o := .tup [V.str z, V.str kd, V.ref pp]) (.refl H24) ntp2
          have t26 := sm_new (o := .lst [V.ref tp2]) t25 ndl
          have due : Dp K (upd (upd H24 tp2 (.tup [V.str z, V.str kd, V.ref pp])) dl (.lst [V.ref tp2])) (.ref dl) (.list [rowD (kdOf fs2) ks z]) := by
            unfold rowD
            rw [kdz, e]
            exact .lst (SqL.of upd_same) (.cons (.tup (SqT.of (keep1 upd_same ndl)) (.cons (.str _) (.cons (.str _) (.cons (.tup (SqT.of (t26 _ _ epp)) (.cons (.int _) (.cons (.int _) .nil))) .nil)))) .nil)
          revert t26 due
          generalize upd (upd H24 tp2 (.tup [V.str z, V.str kd, V.ref pp])) dl (.lst [V.ref tp2]) = H26
          intro t26 due
          have s2326 := s2324.trans t26
          have hfalse : histB (kdOf fs2) ks = false := by
            cases eh : histB (kdOf fs2) ks with
            | false => rfl
            | true =>
              have h1 := (hist_labels R2.used).mp eh z (by rw [nmE2]; exact mz')
              rw [kdz, unfit] at h1
              cases h1
          refine ⟨_, rfl, _, rfl, y2, h, fs2, ts, ks, rfl, S23.same s2326, X17.same (s1723.trans s2326), R2, fun H27 s2627 => ⟨_, rfl, ?_⟩⟩
          rw [hfalse]
          refine iteF ?_
          refine ⟨_, rfl, _, rfl, y2, h, fs2, ts, ks, rfl, S23.same (s2326.trans s2627), X17.same ((s1723.trans s2326).trans s2627), fun H28 p4 ys4 s2728 np4 pm4 dp4 => ?_⟩
          rw [wrong_one (z := z) (pm4.symm.nodup nd2) (pm4.mem_iff.mpr (by rw [nmE2]; exact mz')) (by rw [kdz]; exact unfit) (fun v hv ne => kdo v (by rw [← nmE2]; exact pm4.mem_iff.mp hv) ne)] at dp4
          obtain ⟨nz, kz⟩ := names_txt nd2 good2 (z := z) (by rw [nmE2]; exact mz')
          have er : refute ks z (kdOf fs2 z) = some (i0, j0) := by
            rw [kdz]
            exact e
          obtain ⟨lt1, lt2⟩ := refute_lt er
          refine ⟨_, rfl, .ref p4, .ref dl, .list [rowD (kdOf fs2) ks z], rfl, dp4, dp_same (s2627.trans s2728) due, shw_row nz.txt nz.high (kn_ok _ kz).1 (kn_ok _ kz).2 er (by have := X4.few; omega) lt1, true, rfl, iteF ?_⟩
          exact ⟨_, _, _, rfl, (((s21.trans t1).trans s2223).trans s2326).trans (s2627.trans s2728)⟩
        · rintro σ H21 ⟨x11, x12, x13, rfl, s21⟩
          exact ⟨_, _, _, _, _, rfl, s20.trans s21⟩
      · rintro σ H18 ⟨x2, x9, x11, x12, x13, rfl, s18⟩
        exact ⟨_, _, _, _, _, _, _, _, _, _, _, _, rfl, g17.same s18⟩
    · rintro σ H2 ⟨x2, x3, x4, x5, x6, x7, x8, x9, x10, x11, x12, x13, rfl, g2⟩
      exact q H2
end
end K17
set_option Elab.async false
set_option linter.all false
set_option maxRecDepth 100000
set_option maxHeartbeats 4000000
namespace K17
open PySem PySem.Spec PyProof.Rows L2 PpSet
/-! ### the law's end, for a law that shows lists -/
section
variable {P : Program} {w : World} {K : PySem.W.Frag} {mg mb : Str → Option Value} {k : Nat} {fa a : Addr} {fd : FuncData} {x : Str} {sp : Sp} {s : Shared} {vs : List Value} {ns : List Int} {H : Hp}
/-- the law is called in a heap in which at most the script is told of, and locked -/
theorem end_at (KX : K.In s.heap) (hns : s.heap.Ns mainGlobals mg) (hbu : s.heap.Ns builtinsNs mb) (hnm : ∀ y : Str, y ≠ "__name__" → mb y = bootBuiltins y) (hlim : s.heap.NoLimit) (hgen : s.gens = #[])
    (hscr : s.heap.get? a = some { cls := .type "list", data := .seq vs.toArray }) (room : Room k callerA) (F : ∀ base : Heap, K.In base → base.Ns mainGlobals mg → RunG P w K mg base k fa fd [x] sp)
    (hbind : ∀ (t : Shared) (u : Value), BindsTo t fd ⟨[u], []⟩ [(x, u)]) (hsp : sp [.ref a] H (fun v _ => v = .bl true) fun _ _ _ => False)
    (free : ∀ b, b ≠ a → H b = none) (lock : H a = none ∨ ∃ ob xs, H a = some (.frz ob (.lst xs))) (outer : H a ≠ none → K.lookup a = none) (hok : HOk P w H s.heap) :
    codeAny (model P w) callerA (.call (.ref fa) ⟨[.ref a], []⟩) (fun r t => r = .ok (.ret (.bool true)) ∧ OldK s.heap t.heap ∧ t.os = s.os ∧ AllBare t.gens) s := by
  have untold : ∀ (b : Addr) (o : Obj), s.heap.get? b = some o → (b = a → H a = none) → (hidT s.heap H).get? b = some o := fun b o e n => hidT_get e (by
    by_cases z : b = a
    · rw [z]
      exact n z
    · exact free b z)
  have table : ∀ (b : Addr) (m : Str → Option Value), s.heap.Ns b m → (hidT s.heap H).Ns b m := fun b m h => by
    obtain ⟨o, es, ep, e, d, r⟩ := h
    refine ⟨o, es, ep, untold b o e fun z => ?_, d, r⟩
    subst z
    rw [hscr] at e
    cases e
    cases d
  have written : K.In (hidT s.heap H) := fun b o e => untold b o (KX b o e) fun z => by
    subst z
    cases hq : H b with
    | none => rfl
    | some u =>
      rw [outer (by rw [hq]; intro c; cases c)] at e
      cases e
  obtain ⟨mc, l1, l2⟩ := hlim
  have env : Env0 P w K mg (hidT s.heap H) callerA [] s H :=
    ⟨rfl, ⟨written, table _ _ hns, ⟨mb, table _ _ hbu, hnm⟩, ⟨mc, table _ _ l1, l2⟩⟩, fun _ _ e => of_hidT e, Nat.le_of_eq (hidT_size _ _), trivial, (fun _ z => nomatch z), hok, .of_eq hgen⟩
  have run := F _ written (table _ _ hns) callerA [] s H ⟨[.ref a], []⟩ [.ref a] [.ref a] _ _ room rfl env (hbind s (.ref a)) (.cons rfl .nil) hsp
  refine codeAny_mono run fun r t hq => ?_
  rcases r with e | fl
  · exact False.elim hq
  have back : ∃ u, fl = .ret u := by
    cases fl with
    | ret u => exact ⟨u, rfl⟩
    | next => exact False.elim hq
    | brk => exact False.elim hq
    | cont => exact False.elim hq
  obtain ⟨u, rfl⟩ := back
  obtain ⟨v, H2, hos, bare, un, hok2, rel, hv⟩ := hq
  have hv : v = .bl true := hv
  subst hv
  cases rel
  refine ⟨rfl, OldK.of_keep fun b o e => ?_, hos, bare⟩
  by_cases z : H b = none
  · exact un.keep b o e z (fun c => nomatch c) (by simp)
  · have ba : b = a := Decidable.byContradiction fun c => z (free b c)
    subst ba
    rcases lock with n | ⟨ob, xs, f⟩
    · exact absurd n z
    · have f2 := un.frzs b ob _ f
      have g1 := (hok b _ f).1
      have g2 := (hok2 b _ f2).1
      rw [e] at g1
      rw [g2, ← g1]
end
section
variable {P : Program} {w : World} {K : PySem.W.Frag} {mg mb : Str → Option Value} {k : Nat} {fa a : Addr} {fd : FuncData} {x : Str} {s : Shared} {vs : List Value} {ns : List Int}
theorem end_law (KX : K.In s.heap) (hns : s.heap.Ns mainGlobals mg) (hbu : s.heap.Ns builtinsNs mb) (hnm : ∀ y : Str, y ≠ "__name__" → mb y = bootBuiltins y) (hlim : s.heap.NoLimit) (hgen : s.gens = #[])
    (hscr : s.heap.get? a = some { cls := .type "list", data := .seq vs.toArray }) (hint : IntsAre vs ns) (few : ns.length ≤ sizeLine) (room : Room k callerA) (F : ∀ base : Heap, K.In base → base.Ns mainGlobals mg → RunG P w K mg base k fa fd [x] (spLaw K))
    (hbind : ∀ (t : Shared) (u : Value), BindsTo t fd ⟨[u], []⟩ [(x, u)]) :
    codeAny (model P w) callerA (.call (.ref fa) ⟨[.ref a], []⟩) (fun r t => r = .ok (.ret (.bool true)) ∧ OldK s.heap t.heap ∧ t.os = s.os ∧ AllBare t.gens) s := by
  have rel := vals_ints hint
  cases own : K.lookup a with
  | none =>
    have here : ∀ u, (fun b => if b = a then some u else none : Hp) a = some u := fun u => if_pos rfl
    refine end_at (H := fun b => if b = a then some (.frz { cls := .type "list", data := .seq vs.toArray } (.lst (ns.map V.int))) else none) KX hns hbu hnm hlim hgen hscr room F hbind ⟨a, ns, rfl, .inl (.inr ⟨_, here _⟩), fun _ => rfl⟩
      (fun b z => if_neg z) (.inr ⟨_, _, here _⟩) (fun _ => own) fun b u hu => ?_
    by_cases z : b = a
    · subst z
      rw [here] at hu
      cases hu
      exact ⟨hscr, by rw [List.length_map]; exact few, vs, _, rel, hscr⟩
    · have hu : (if b = a then some (.frz { cls := .type "list", data := .seq vs.toArray } (.lst (ns.map V.int))) else none : Option HO) = some u := hu
      rw [if_neg z] at hu
      cases hu
  | some o =>
    have e := KX a o own
    rw [hscr] at e
    cases e
    exact end_at (H := fun _ => none) KX hns hbu hnm hlim hgen hscr room F hbind ⟨a, ns, rfl, .inr ⟨_, vs.toArray, _, own, rfl, rfl, rfl, by rw [List.size_toArray, hint.length]; exact few, by simpa using rel⟩, fun _ => rfl⟩
      (fun _ _ => rfl) (.inl rfl) (fun z => absurd rfl z) fun _ _ z => nomatch z
end
theorem walk17 {l : PySem.W.OpenLaw} {n k : Nat} {q : Program} {loose : List Str} {XP : (Str → Option Value) → Heap → Prop} {YP : World → Heap → Prop} {d : DefRec} {K : Params → PySem.W.Frag} {x : Str}
    (hn : l.most = some n) (hn2 : n ≤ sizeLine) (hdf : d.params.defaults = []) (room : Room k callerA) (hY : ∀ (w : World) (h : Heap), YP w h → (K w.params).In h)
    (F : ∀ (w : World) (mg : Str → Option Value) (fa : Addr) (h : Heap), (K w.params).In h → h.Ns mainGlobals mg → mg d.name = some (.ref fa) → ∃ fd : FuncData, (∀ (t : Shared) (u : Value), BindsTo t fd ⟨[u], []⟩ [(x, u)]) ∧ ∀ base : Heap, (K w.params).In base → base.Ns mainGlobals mg → RunG l.prog w (K w.params) mg base k fa fd [x] (spLaw (K w.params))) :
    PySem.W.WalkO q loose XP YP l.row.toRowW d [] (fun g us => PySem.call g us) := by
  refine Att.attach_call hn hdf fun w s0 s1 mg mb fa o pm cd doc a vs ns G Y ho hd hcd hmg hobj hints hlen hg => ?_
  obtain ⟨fd, hb, hF⟩ := F w mg fa _ (hY w _ Y) G.T.g hmg
  exact end_law (hY w _ Y) G.T.g G.T.b G.T.builtins G.T.nolimit hg hobj hints (Nat.le_trans hlen hn2) room hF hb
end K17
set_option Elab.async false
set_option linter.all false
set_option maxRecDepth 100000
set_option maxHeartbeats 4000000
namespace K17
open PySem PySem.Spec PyProof.Rows L2 PpSet
/-! ### what the top has written -/
/-- a def of the top -/
def Std (K : PySem.W.Frag) (x : Str) (st : Stmt) : Prop := ∃ (f : Addr) (fd : FuncData), PySem.W.nsIn K mainGlobals x = some (some (.ref f)) ∧ Fun K x x st f fd
theorem stands {K : PySem.W.Frag} {x : Str} {st : Stmt} {f : Addr} {oc kV dc pm cd ct : Value} {od an : Option Addr} {sl : Array (Option Value)} (a : PySem.W.nsIn K mainGlobals x = some (some (.ref f)))
    (l : K.lookup f = some ⟨oc, od, .func (PySem.W.fnOf x x (defArgs st) (defBody st) (defScope st) .none kV dc pm an cd ct), sl⟩) (c : PySem.W.codeIn K cd x = true) (k : PySem.W.keepIn K (.ref f) = true) : Std K x st := ⟨f, _, a, fun_mk (st := st) l c k⟩
/-- a method of the class -/
def MStd (K : PySem.W.Frag) (C : Addr) (m qual : Str) (st : Stmt) : Prop := ∃ (f : Addr) (fd : FuncData), Fun K m qual st f fd ∧ Meth K C m f
theorem mstands {K : PySem.W.Frag} {C : Addr} {m qual : Str} {st : Stmt} {f : Addr} {oc kV dc pm cd ct : Value} {od an : Option Addr} {sl : Array (Option Value)} (a : PySem.W.findIn K (.ref C) m = some (some (.ref f))) (i : PySem.W.isFn K (.ref f) = true)
    (l : K.lookup f = some ⟨oc, od, .func (PySem.W.fnOf m qual (defArgs st) (defBody st) (defScope st) .none kV dc pm an cd ct), sl⟩) (c : PySem.W.codeIn K cd qual = true) (k : PySem.W.keepIn K (.ref f) = true) : MStd K C m qual st := ⟨f, _, fun_mk (st := st) l c k, a, i, k⟩
/-- an empty tuple of the text -/
def EmpK (K : PySem.W.Frag) (e : Addr) : Prop := ∃ (od : Option Addr) (n : Nat) (sl : Array (Option Value)), K.lookup e = some ⟨.type "tuple", od, .seq #[] n, sl⟩
theorem empK_mk {K : PySem.W.Frag} {e : Addr} {od : Option Addr} {n : Nat} {sl : Array (Option Value)} (l : K.lookup e = some ⟨.type "tuple", od, .seq #[] n, sl⟩) : EmpK K e := ⟨od, n, sl, l⟩
theorem EmpK.emp {K : PySem.W.Frag} {e : Addr} (h : EmpK K e) (H : Hp) : Emp K H e := by
  obtain ⟨od, n, sl, l⟩ := h
  exact .inr ⟨_, l, rfl, fun H' => .inr ⟨_, #[], n, l, rfl, rfl, Nat.zero_le _, .nil⟩⟩
/-- Schema.__init__ -/
def IStd (K : PySem.W.Frag) (C : Addr) : Prop := ∃ (f : Addr) (fd : FuncData) (e1 e2 : Addr), FunD K "__init__" "Schema.__init__" (defArgs sInit) (defBody sInit) (defScope sInit) [] (kwI e1 e2) f fd ∧ Mk K C f ∧ EmpK K e1 ∧ EmpK K e2
theorem istands {K : PySem.W.Frag} {C f D e1 e2 : Addr} {oc dc pm cd ct : Value} {od an : Option Addr} {sl : Array (Option Value)} (a : PySem.W.findIn K (.ref C) "__init__" = some (some (.ref f))) (i : PySem.W.isFn K (.ref f) = true)
    (l : K.lookup f = some ⟨oc, od, .func (PySem.W.fnOf "__init__" "Schema.__init__" (defArgs sInit) (defBody sInit) (defScope sInit) .none (.ref D) dc pm an cd ct), sl⟩) (c : PySem.W.codeIn K cd "Schema.__init__" = true) (k : PySem.W.keepIn K (.ref f) = true)
    (k1 : PySem.W.nsIn K D "keys" = some (some .none)) (k2 : PySem.W.nsIn K D "references" = some (some (.ref e1))) (k3 : PySem.W.nsIn K D "made" = some (some (.ref e2))) (t1 : EmpK K e1) (t2 : EmpK K e2)
    (mk : PySem.W.makesIn K C = true) (kc : PySem.W.keepIn K (.ref C) = true) : IStd K C := by
  refine ⟨f, _, e1, e2, ⟨⟨oc, od, .none, .ref D, dc, pm, an, cd, ct, sl, rfl, l, c, .inl ⟨rfl, rfl⟩, .inr ⟨D, rfl, fun q hq => ?_⟩⟩, k⟩, ⟨mk, a, i, kc⟩, t1, t2⟩
  rcases List.mem_cons.mp hq with e | hq
  · rw [e]
    exact ⟨_, k1, rfl⟩
  rcases List.mem_cons.mp hq with e | hq
  · rw [e]
    exact ⟨_, k2, rfl⟩
  · rw [List.mem_singleton.mp hq]
    exact ⟨_, k3, rfl⟩
/-- KINDS -/
def KStd (K : PySem.W.Frag) : Prop := ∃ a : Addr, PySem.W.nsIn K mainGlobals "KINDS" = some (some (.ref a)) ∧ ∀ H : Hp, SqT K H a (KN.map V.str)
theorem kstands {K : PySem.W.Frag} {a : Addr} {od : Option Addr} {t1 t2 t3 t4 : Tok} {n : Nat} {sl : Array (Option Value)} (g : PySem.W.nsIn K mainGlobals "KINDS" = some (some (.ref a)))
    (l : K.lookup a = some ⟨.type "tuple", od, .seq #[.str "fixed" t1, .str "stable" t2, .str "changing" t3, .str "effect" t4] n, sl⟩) : KStd K :=
  ⟨a, g, fun H => .inr ⟨_, _, _, l, rfl, rfl, (by show 4 ≤ sizeLine; decide), .cons ⟨t1, rfl⟩ (.cons ⟨t2, rfl⟩ (.cons ⟨t3, rfl⟩ (.cons ⟨t4, rfl⟩ .nil)))⟩⟩
/-- LASTING -/
def LStd (w : World) (K : PySem.W.Frag) : Prop := ∃ a : Addr, PySem.W.nsIn K mainGlobals "LASTING" = some (some (.ref a)) ∧ ∀ kd ∈ KN, KDct K w a kd (.str (lastOf kd))
theorem lstands {w : World} {K : PySem.W.Frag} {a : Addr} {es : Array DictEntry} {n : Nat} {t1 t2 t3 t4 : Tok} (g : PySem.W.nsIn K mainGlobals "LASTING" = some (some (.ref a))) (l : K.lookup a = some ⟨.type "dict", none, .dict es n, #[]⟩) (li : PySem.W.KeysLit w.params es.toList)
    (h1 : PySem.W.nsIn K a "fixed" = some (some (.str "ever" t1))) (h2 : PySem.W.nsIn K a "stable" = some (some (.str "statement" t2))) (h3 : PySem.W.nsIn K a "changing" = some (some (.str "never" t3))) (h4 : PySem.W.nsIn K a "effect" = some (some (.str "never" t4))) : LStd w K := by
  refine ⟨a, g, fun kd hk => ?_⟩
  have put : ∀ {z v : Str} {t : Tok}, PySem.W.nsIn K a z = some (some (.str v t)) → lastOf z = v → KDct K w a z (.str (lastOf z)) := fun {z v t} e q => ⟨es, n, _, l, li, e, t, by rw [q]⟩
  rcases List.mem_cons.mp hk with e | hk
  · subst e
    exact put h1 (by decide +kernel)
  rcases List.mem_cons.mp hk with e | hk
  · subst e
    exact put h2 (by decide +kernel)
  rcases List.mem_cons.mp hk with e | hk
  · subst e
    exact put h3 (by decide +kernel)
  · rw [List.mem_singleton.mp hk]
    exact put h4 (by decide +kernel)
section
variable {K : PySem.W.Frag} {h : Heap} {mg : Str → Option Value} {C : Addr}
theorem atIsInt (X : K.In h) (G : h.Ns mainGlobals mg) (D : Std K "is_integer" sIsInt) : DefAt K mg "is_integer" sIsInt pIsInt := by
  obtain ⟨f, fd, a, F⟩ := D
  exact ⟨f, fd, F, PySem.W.mg_of X G a, F.binds (ps := pIsInt) fun _ _ _ _ _ _ us hl => match us, hl with | [_], _ => rfl⟩
theorem atIsName (X : K.In h) (G : h.Ns mainGlobals mg) (D : Std K "is_name" sIsName) : DefAt K mg "is_name" sIsName pIsName := by
  obtain ⟨f, fd, a, F⟩ := D
  exact ⟨f, fd, F, PySem.W.mg_of X G a, F.binds (ps := pIsName) fun _ _ _ _ _ _ us hl => match us, hl with | [_], _ => rfl⟩
theorem atIsKind (X : K.In h) (G : h.Ns mainGlobals mg) (D : Std K "is_kind" sIsKind) : DefAt K mg "is_kind" sIsKind pIsKind := by
  obtain ⟨f, fd, a, F⟩ := D
  exact ⟨f, fd, F, PySem.W.mg_of X G a, F.binds (ps := pIsKind) fun _ _ _ _ _ _ us hl => match us, hl with | [_], _ => rfl⟩
theorem atIsRow (X : K.In h) (G : h.Ns mainGlobals mg) (D : Std K "is_row" sIsRow) : DefAt K mg "is_row" sIsRow pIsRow := by
  obtain ⟨f, fd, a, F⟩ := D
  exact ⟨f, fd, F, PySem.W.mg_of X G a, F.binds (ps := pIsRow) fun _ _ _ _ _ _ us hl => match us, hl with | [_, _], _ => rfl⟩
theorem atIsListOf (X : K.In h) (G : h.Ns mainGlobals mg) (D : Std K "is_list_of" sIsListOf) : DefAt K mg "is_list_of" sIsListOf pIsListOf := by
  obtain ⟨f, fd, a, F⟩ := D
  exact ⟨f, fd, F, PySem.W.mg_of X G a, F.binds (ps := pIsListOf) fun _ _ _ _ _ _ us hl => match us, hl with | [_, _], _ => rfl⟩
theorem atMustAgree (X : K.In h) (G : h.Ns mainGlobals mg) (D : Std K "must_agree" sMustAgree) : DefAt K mg "must_agree" sMustAgree pMustAgree := by
  obtain ⟨f, fd, a, F⟩ := D
  exact ⟨f, fd, F, PySem.W.mg_of X G a, F.binds (ps := pMustAgree) fun _ _ _ _ _ _ us hl => match us, hl with | [_, _, _], _ => rfl⟩
theorem atRefuting (X : K.In h) (G : h.Ns mainGlobals mg) (D : Std K "refuting" sRefuting) : DefAt K mg "refuting" sRefuting pRefuting := by
  obtain ⟨f, fd, a, F⟩ := D
  exact ⟨f, fd, F, PySem.W.mg_of X G a, F.binds (ps := pRefuting) fun _ _ _ _ _ _ us hl => match us, hl with | [_, _, _], _ => rfl⟩
theorem atFits (X : K.In h) (G : h.Ns mainGlobals mg) (D : Std K "fits" sFits) : DefAt K mg "fits" sFits pFits := by
  obtain ⟨f, fd, a, F⟩ := D
  exact ⟨f, fd, F, PySem.W.mg_of X G a, F.binds (ps := pFits) fun _ _ _ _ _ _ us hl => match us, hl with | [_, _, _], _ => rfl⟩
theorem atMostBound (X : K.In h) (G : h.Ns mainGlobals mg) (D : Std K "most_bound" sMostBound) : DefAt K mg "most_bound" sMostBound pMostBound := by
  obtain ⟨f, fd, a, F⟩ := D
  exact ⟨f, fd, F, PySem.W.mg_of X G a, F.binds (ps := pMostBound) fun _ _ _ _ _ _ us hl => match us, hl with | [_], _ => rfl⟩
theorem atWrongLabels (X : K.In h) (G : h.Ns mainGlobals mg) (D : Std K "wrong_labels" sWrongLabels) : DefAt K mg "wrong_labels" sWrongLabels pWrongLabels := by
  obtain ⟨f, fd, a, F⟩ := D
  exact ⟨f, fd, F, PySem.W.mg_of X G a, F.binds (ps := pWrongLabels) fun _ _ _ _ _ _ us hl => match us, hl with | [_, _], _ => rfl⟩
theorem atIsShape (X : K.In h) (G : h.Ns mainGlobals mg) (D : Std K "is_shape" sIsShape) : DefAt K mg "is_shape" sIsShape pIsShape := by
  obtain ⟨f, fd, a, F⟩ := D
  exact ⟨f, fd, F, PySem.W.mg_of X G a, F.binds (ps := pIsShape) fun _ _ _ _ _ _ us hl => match us, hl with | [_], _ => rfl⟩
theorem atIsDictOf (X : K.In h) (G : h.Ns mainGlobals mg) (D : Std K "is_dict_of" sIsDictOf) : DefAt K mg "is_dict_of" sIsDictOf pIsDictOf := by
  obtain ⟨f, fd, a, F⟩ := D
  exact ⟨f, fd, F, PySem.W.mg_of X G a, F.binds (ps := pIsDictOf) fun _ _ _ _ _ _ us hl => match us, hl with | [_, _], _ => rfl⟩
theorem atIsDictOfNames (X : K.In h) (G : h.Ns mainGlobals mg) (D : Std K "is_dict_of_names" sIsDictOfNames) : DefAt K mg "is_dict_of_names" sIsDictOfNames pIsDictOfNames := by
  obtain ⟨f, fd, a, F⟩ := D
  exact ⟨f, fd, F, PySem.W.mg_of X G a, F.binds (ps := pIsDictOfNames) fun _ _ _ _ _ _ us hl => match us, hl with | [_], _ => rfl⟩
theorem atIsAsk (X : K.In h) (G : h.Ns mainGlobals mg) (D : Std K "is_ask" sIsAsk) : DefAt K mg "is_ask" sIsAsk pIsAsk := by
  obtain ⟨f, fd, a, F⟩ := D
  exact ⟨f, fd, F, PySem.W.mg_of X G a, F.binds (ps := pIsAsk) fun _ _ _ _ _ _ us hl => match us, hl with | [_, _], _ => rfl⟩
theorem atAlikeAsks (X : K.In h) (G : h.Ns mainGlobals mg) (D : Std K "are_alike_asks" sAlikeAsks) : DefAt K mg "are_alike_asks" sAlikeAsks pAlikeAsks := by
  obtain ⟨f, fd, a, F⟩ := D
  exact ⟨f, fd, F, PySem.W.mg_of X G a, F.binds (ps := pAlikeAsks) fun _ _ _ _ _ _ us hl => match us, hl with | [_, _, _], _ => rfl⟩
theorem atIsHistory (X : K.In h) (G : h.Ns mainGlobals mg) (D : Std K "is_history" sIsHistory) : DefAt K mg "is_history" sIsHistory pIsHistory := by
  obtain ⟨f, fd, a, F⟩ := D
  exact ⟨f, fd, F, PySem.W.mg_of X G a, F.binds (ps := pIsHistory) fun _ _ _ _ _ _ us hl => match us, hl with | [_, _], _ => rfl⟩
theorem atEarlier (X : K.In h) (G : h.Ns mainGlobals mg) (D : Std K "earlier" sEarlier) : DefAt K mg "earlier" sEarlier pEarlier := by
  obtain ⟨f, fd, a, F⟩ := D
  exact ⟨f, fd, F, PySem.W.mg_of X G a, F.binds (ps := pEarlier) fun _ _ _ _ _ _ us hl => match us, hl with | [_, _, _], _ => rfl⟩
theorem atTold (X : K.In h) (G : h.Ns mainGlobals mg) (D : Std K "told" sTold) : DefAt K mg "told" sTold pTold := by
  obtain ⟨f, fd, a, F⟩ := D
  exact ⟨f, fd, F, PySem.W.mg_of X G a, F.binds (ps := pTold) fun _ _ _ _ _ _ us hl => match us, hl with | [_, _, _], _ => rfl⟩
theorem atAsked (X : K.In h) (G : h.Ns mainGlobals mg) (D : Std K "asked" sAsked) : DefAt K mg "asked" sAsked pAsked := by
  obtain ⟨f, fd, a, F⟩ := D
  exact ⟨f, fd, F, PySem.W.mg_of X G a, F.binds (ps := pAsked) fun _ _ _ _ _ _ us hl => match us, hl with | [_, _, _], _ => rfl⟩
theorem atLasting (X : K.In h) (G : h.Ns mainGlobals mg) (D : Std K "lasting" sLasting) : DefAt K mg "lasting" sLasting pLasting := by
  obtain ⟨f, fd, a, F⟩ := D
  exact ⟨f, fd, F, PySem.W.mg_of X G a, F.binds (ps := pLasting) fun _ _ _ _ _ _ us hl => match us, hl with | [_], _ => rfl⟩
theorem atBag (X : K.In h) (G : h.Ns mainGlobals mg) (D : Std K "_law_bag" sBag) : DefAt K mg "_law_bag" sBag pBag := by
  obtain ⟨f, fd, a, F⟩ := D
  exact ⟨f, fd, F, PySem.W.mg_of X G a, F.binds (ps := pBag) fun _ _ _ _ _ _ us hl => match us, hl with | [_], _ => rfl⟩
theorem atTake (X : K.In h) (G : h.Ns mainGlobals mg) (D : Std K "_law_take" sTake) : DefAt K mg "_law_take" sTake pTake := by
  obtain ⟨f, fd, a, F⟩ := D
  exact ⟨f, fd, F, PySem.W.mg_of X G a, F.binds (ps := pTake) fun _ _ _ _ _ _ us hl => match us, hl with | [_, _], _ => rfl⟩
theorem atAlike (X : K.In h) (G : h.Ns mainGlobals mg) (D : Std K "_law_alike" sAlike) : DefAt K mg "_law_alike" sAlike pAlike := by
  obtain ⟨f, fd, a, F⟩ := D
  exact ⟨f, fd, F, PySem.W.mg_of X G a, F.binds (ps := pAlike) fun _ _ _ _ _ _ us hl => match us, hl with | [_, _], _ => rfl⟩
theorem atLabels (X : K.In h) (G : h.Ns mainGlobals mg) (D : Std K "_law_draw_labels" sLabels) : DefAt K mg "_law_draw_labels" sLabels pLabels := by
  obtain ⟨f, fd, a, F⟩ := D
  exact ⟨f, fd, F, PySem.W.mg_of X G a, F.binds (ps := pLabels) fun _ _ _ _ _ _ us hl => match us, hl with | [_, _], _ => rfl⟩
theorem atAsks (X : K.In h) (G : h.Ns mainGlobals mg) (D : Std K "_law_asks" sAsks) : DefAt K mg "_law_asks" sAsks pAsks := by
  obtain ⟨f, fd, a, F⟩ := D
  exact ⟨f, fd, F, PySem.W.mg_of X G a, F.binds (ps := pAsks) fun _ _ _ _ _ _ us hl => match us, hl with | [_, _, _], _ => rfl⟩
theorem atDrawn (X : K.In h) (G : h.Ns mainGlobals mg) (D : Std K "_law_drawn" sDrawn) : DefAt K mg "_law_drawn" sDrawn pDrawn := by
  obtain ⟨f, fd, a, F⟩ := D
  exact ⟨f, fd, F, PySem.W.mg_of X G a, F.binds (ps := pDrawn) fun _ _ _ _ _ _ us hl => match us, hl with | [_], _ => rfl⟩
theorem atKeptRight (X : K.In h) (G : h.Ns mainGlobals mg) (D : Std K "_law_kept_right" sKeptRight) : DefAt K mg "_law_kept_right" sKeptRight pKeptRight := by
  obtain ⟨f, fd, a, F⟩ := D
  exact ⟨f, fd, F, PySem.W.mg_of X G a, F.binds (ps := pKeptRight) fun _ _ _ _ _ _ us hl => match us, hl with | [_, _, _], _ => rfl⟩
theorem atCheckKeys (D : MStd K C "check_keys" "Schema.check_keys" sCheckKeys) : MetAt K C "check_keys" "Schema.check_keys" sCheckKeys pCheckKeys := by
  obtain ⟨f, fd, F, M⟩ := D
  exact ⟨f, fd, F, M, F.binds (ps := pCheckKeys) fun _ _ _ _ _ _ us hl => match us, hl with | [_], _ => rfl⟩
theorem atCheckedRefs (D : MStd K C "checked_references" "Schema.checked_references" sCheckedRefs) : MetAt K C "checked_references" "Schema.checked_references" sCheckedRefs pCheckedRefs := by
  obtain ⟨f, fd, F, M⟩ := D
  exact ⟨f, fd, F, M, F.binds (ps := pCheckedRefs) fun _ _ _ _ _ _ us hl => match us, hl with | [_, _], _ => rfl⟩
theorem atCheckedMade (D : MStd K C "checked_made" "Schema.checked_made" sCheckedMade) : MetAt K C "checked_made" "Schema.checked_made" sCheckedMade pCheckedMade := by
  obtain ⟨f, fd, F, M⟩ := D
  exact ⟨f, fd, F, M, F.binds (ps := pCheckedMade) fun _ _ _ _ _ _ us hl => match us, hl with | [_, _], _ => rfl⟩
theorem atCheckRings (D : MStd K C "check_rings" "Schema.check_rings" sCheckRings) : MetAt K C "check_rings" "Schema.check_rings" sCheckRings pCheckRings := by
  obtain ⟨f, fd, F, M⟩ := D
  exact ⟨f, fd, F, M, F.binds (ps := pCheckRings) fun _ _ _ _ _ _ us hl => match us, hl with | [_], _ => rfl⟩
theorem atFunctions (D : MStd K C "functions" "Schema.functions" sFunctions) : MetAt K C "functions" "Schema.functions" sFunctions pFunctions := by
  obtain ⟨f, fd, F, M⟩ := D
  exact ⟨f, fd, F, M, F.binds (ps := pFunctions) fun _ _ _ _ _ _ us hl => match us, hl with | [_], _ => rfl⟩
theorem atArguments (D : MStd K C "arguments" "Schema.arguments" sArguments) : MetAt K C "arguments" "Schema.arguments" sArguments pArguments := by
  obtain ⟨f, fd, F, M⟩ := D
  exact ⟨f, fd, F, M, F.binds (ps := pArguments) fun _ _ _ _ _ _ us hl => match us, hl with | [_, _], _ => rfl⟩
theorem atKind (D : MStd K C "kind" "Schema.kind" sKind) : MetAt K C "kind" "Schema.kind" sKind pKind := by
  obtain ⟨f, fd, F, M⟩ := D
  exact ⟨f, fd, F, M, F.binds (ps := pKind) fun _ _ _ _ _ _ us hl => match us, hl with | [_, _], _ => rfl⟩
theorem atWithKinds (D : MStd K C "with_kinds" "Schema.with_kinds" sWithKinds) : MetAt K C "with_kinds" "Schema.with_kinds" sWithKinds pWithKinds := by
  obtain ⟨f, fd, F, M⟩ := D
  exact ⟨f, fd, F, M, F.binds (ps := pWithKinds) fun _ _ _ _ _ _ us hl => match us, hl with | [_, _], _ => rfl⟩
end
/-- what the head's facts say: the law's promise -/
theorem all17 {l : PySem.W.OpenLaw} {w : World} {K : PySem.W.Frag} {h : Heap} {mg : Str → Option Value} {fa C c1 c3 c4 : Addr} {t1 t2 t3 t4 : Tok} (X : K.In h) (G : h.Ns mainGlobals mg) (hfa : mg "law" = some (.ref fa))
    (aC : PySem.W.nsIn K mainGlobals "Schema" = some (some (.ref C)))
    (pg : PySem.W.plainGet K C Str.empty = true) (hd : PySem.W.hasDictIn K C = true) (po : PySem.W.plainOver K C = true) (sa : PySem.W.findIn K (.ref C) "__setattr__" = some (some (.builtin "object.__setattr__")))
    (nC : PySem.W.findIn K (.ref C) "its_columns" = some none) (nS : PySem.W.findIn K (.ref C) "its_shapes" = some none) (nK : PySem.W.findIn K (.ref C) "its_keys" = some none) (nR : PySem.W.findIn K (.ref C) "its_references" = some none) (nM : PySem.W.findIn K (.ref C) "its_made" = some none)
    (init : IStd K C) (kinds : KStd K) (last : LStd w K)
    (gL : PySem.W.nsIn K mainGlobals "LETTERS" = some (some (.str "abcdefghijklmnopqrstuvwxyz" t1))) (gN : PySem.W.nsIn K mainGlobals "LONGEST_NAME" = some (some (.int 8 t2))) (gM : PySem.W.nsIn K mainGlobals "MOST_NAMES" = some (some (.int 6 t3))) (gA : PySem.W.nsIn K mainGlobals "MOST_ARGUMENTS" = some (some (.int 3 t4)))
    (v1 : PySem.W.nsIn K mainGlobals "are_columns" = some (some (.ref c1))) (v3 : PySem.W.nsIn K mainGlobals "is_reference" = some (some (.ref c3))) (v4 : PySem.W.nsIn K mainGlobals "is_made" = some (some (.ref c4)))
    (dIsInt : Std K "is_integer" sIsInt)
    (dIsName : Std K "is_name" sIsName)
    (dIsKind : Std K "is_kind" sIsKind)
    (dIsRow : Std K "is_row" sIsRow)
    (dIsListOf : Std K "is_list_of" sIsListOf)
    (dMustAgree : Std K "must_agree" sMustAgree)
    (dRefuting : Std K "refuting" sRefuting)
    (dFits : Std K "fits" sFits)
    (dMostBound : Std K "most_bound" sMostBound)
    (dWrongLabels : Std K "wrong_labels" sWrongLabels)
    (dIsShape : Std K "is_shape" sIsShape)
    (dIsDictOf : Std K "is_dict_of" sIsDictOf)
    (dIsDictOfNames : Std K "is_dict_of_names" sIsDictOfNames)
    (dIsAsk : Std K "is_ask" sIsAsk)
    (dAlikeAsks : Std K "are_alike_asks" sAlikeAsks)
    (dIsHistory : Std K "is_history" sIsHistory)
    (dEarlier : Std K "earlier" sEarlier)
    (dTold : Std K "told" sTold)
    (dAsked : Std K "asked" sAsked)
    (dLasting : Std K "lasting" sLasting)
    (dBag : Std K "_law_bag" sBag)
    (dTake : Std K "_law_take" sTake)
    (dAlike : Std K "_law_alike" sAlike)
    (dLabels : Std K "_law_draw_labels" sLabels)
    (dAsks : Std K "_law_asks" sAsks)
    (dDrawn : Std K "_law_drawn" sDrawn)
    (dKeptRight : Std K "_law_kept_right" sKeptRight)
    (dLaw : Std K "law" sLaw)
    (dCheckKeys : MStd K C "check_keys" "Schema.check_keys" sCheckKeys)
    (dCheckedRefs : MStd K C "checked_references" "Schema.checked_references" sCheckedRefs)
    (dCheckedMade : MStd K C "checked_made" "Schema.checked_made" sCheckedMade)
    (dCheckRings : MStd K C "check_rings" "Schema.check_rings" sCheckRings)
    (dFunctions : MStd K C "functions" "Schema.functions" sFunctions)
    (dArguments : MStd K C "arguments" "Schema.arguments" sArguments)
    (dKind : MStd K C "kind" "Schema.kind" sKind)
    (dWithKinds : MStd K C "with_kinds" "Schema.with_kinds" sWithKinds)
    (b_isinstance : PySem.W.nsIn K mainGlobals "isinstance" = some none)
    (b_int : PySem.W.nsIn K mainGlobals "int" = some none)
    (b_bool : PySem.W.nsIn K mainGlobals "bool" = some none)
    (b_str : PySem.W.nsIn K mainGlobals "str" = some none)
    (b_list : PySem.W.nsIn K mainGlobals "list" = some none)
    (b_tuple : PySem.W.nsIn K mainGlobals "tuple" = some none)
    (b_dict : PySem.W.nsIn K mainGlobals "dict" = some none)
    (b_set : PySem.W.nsIn K mainGlobals "set" = some none)
    (b_len : PySem.W.nsIn K mainGlobals "len" = some none)
    (b_all : PySem.W.nsIn K mainGlobals "all" = some none)
    (b_sorted : PySem.W.nsIn K mainGlobals "sorted" = some none)
    (b_enumerate : PySem.W.nsIn K mainGlobals "enumerate" = some none)
    (b_zip : PySem.W.nsIn K mainGlobals "zip" = some none)
    (b_range : PySem.W.nsIn K mainGlobals "range" = some none)
    (b_abs : PySem.W.nsIn K mainGlobals "abs" = some none)
    (b_repr : PySem.W.nsIn K mainGlobals "repr" = some none) :
    ∃ fd : FuncData, (∀ (t : Shared) (u : Value), BindsTo t fd ⟨[u], []⟩ [("_law_script", u)]) ∧ ∀ base : Heap, K.In base → base.Ns mainGlobals mg → RunG l.prog w K mg base 7 fa fd ["_law_script"] (spLaw K) := by
  have B : Bi mg := ⟨PySem.W.mg_none_of X G b_isinstance, PySem.W.mg_none_of X G b_int, PySem.W.mg_none_of X G b_bool, PySem.W.mg_none_of X G b_str, PySem.W.mg_none_of X G b_list, PySem.W.mg_none_of X G b_tuple, PySem.W.mg_none_of X G b_dict, PySem.W.mg_none_of X G b_set, PySem.W.mg_none_of X G b_len, PySem.W.mg_none_of X G b_all, PySem.W.mg_none_of X G b_sorted, PySem.W.mg_none_of X G b_enumerate, PySem.W.mg_none_of X G b_zip, PySem.W.mg_none_of X G b_range, PySem.W.mg_none_of X G b_abs, PySem.W.mg_none_of X G b_repr⟩
  obtain ⟨ka, kg, kq⟩ := kinds
  have Cn : Co K mg := ⟨⟨_, PySem.W.mg_of X G gL⟩, ⟨_, PySem.W.mg_of X G gN⟩, ⟨_, PySem.W.mg_of X G gM⟩, ⟨_, PySem.W.mg_of X G gA⟩, ⟨ka, PySem.W.mg_of X G kg, kq⟩⟩
  obtain ⟨la, lg, lq⟩ := last
  have L : La w K mg := ⟨la, PySem.W.mg_of X G lg, lq⟩
  have T : Cl K mg C := ⟨⟨pg, hd, po, sa⟩, nC, nS, nK, nR, nM⟩
  have V0 : Fv mg := ⟨⟨_, PySem.W.mg_of X G v1⟩, (by obtain ⟨f, fd, a, F⟩ := dIsShape; exact ⟨f, PySem.W.mg_of X G a⟩), ⟨_, PySem.W.mg_of X G v3⟩, ⟨_, PySem.W.mg_of X G v4⟩⟩
  obtain ⟨fi, fdi, e1, e2, FD, MK, E1, E2⟩ := init
  have M : MakAt K mg C fi fdi e1 e2 := ⟨FD, MK, PySem.W.mg_of X G aC, E1.emp, E2.emp⟩
  obtain ⟨f0, fd, a0, F⟩ := dLaw
  have e0 := hfa.symm.trans (PySem.W.mg_of X G a0)
  cases e0
  refine ⟨fd, fun t u => ?_, fun base _ _ => ?_⟩
  · obtain ⟨c0, d0, kV, dc, pm, an, cdv, ct, sl, rfl, lk, hcd⟩ := F.ex
    exact .of_eq rfl
  have cInt := cal_isInt (P := l.prog) (w := w) (base := base) B (atIsInt X G dIsInt)
  have cName := cal_isName (P := l.prog) (w := w) (base := base) B Cn (atIsName X G dIsName)
  have cKind := cal_isKind (P := l.prog) (w := w) (base := base) B Cn (atIsKind X G dIsKind)
  have cRow := cal_isRow B (atIsRow X G dIsRow) cInt
  have cListOf := cal_isListOf (P := l.prog) (w := w) (base := base) B (atIsListOf X G dIsListOf)
  have cMust := cal_mustAgree (P := l.prog) (w := w) (base := base) (atMustAgree X G dMustAgree)
  have cRef := cal_refuting B (atRefuting X G dRefuting) cMust
  have cFits := cal_fits (atFits X G dFits) cRef
  have cMost := cal_mostBound B Cn (atMostBound X G dMostBound) cFits
  have cShape := cal_isShape B Cn (atIsShape X G dIsShape) cInt cKind
  have cDictOf := cal_isDictOf B Cn (atIsDictOf X G dIsDictOf) cName cShape
  have cNames := cal_isDictOfNames B (atIsDictOfNames X G dIsDictOfNames) cName
  have mFun := met_functions (P := l.prog) (w := w) (base := base) B T (atFunctions dFunctions)
  have mArg := met_arguments (P := l.prog) (w := w) (base := base) T (atArguments dArguments)
  have mKind := met_kind (P := l.prog) (w := w) (base := base) T (atKind dKind)
  have FI := fn_init (P := l.prog) (w := w) (base := base) B T V0 M cDictOf cNames cListOf (met_checkKeys B T (atCheckKeys dCheckKeys)) (met_checkedRefs B (atCheckedRefs dCheckedRefs)) (met_checkedMade B T (atCheckedMade dCheckedMade)) (met_checkRings T (atCheckRings dCheckRings))
  have mWith := met_withKinds B T M FI (atWithKinds dWithKinds)
  have cWrong := cal_wrong T (atWrongLabels X G dWrongLabels) cRef cFits mFun mKind
  have cAsk := cal_isAsk B T (atIsAsk X G dIsAsk) cInt cRow mFun mArg
  have cAl := cal_alikeAsks (P := l.prog) (w := w) (base := base) (atAlikeAsks X G dAlikeAsks)
  have cHist := cal_isHist B T (atIsHistory X G dIsHistory) cAsk cAl mKind
  have cEar := cal_earlier (P := l.prog) (w := w) (base := base) B (atEarlier X G dEarlier)
  have cTold := cal_told B (atTold X G dTold) cEar
  have cAsked := cal_asked B (atAsked X G dAsked) cEar
  have cLast := cal_lasting (P := l.prog) (base := base) L (atLasting X G dLasting)
  have cBag := cal_bag (P := l.prog) (w := w) (base := base) B (atBag X G dBag)
  have cTake := cal_take (P := l.prog) (w := w) (base := base) B (atTake X G dTake)
  have cLab := cal_labels B (atLabels X G dLabels) cTake
  have cAsks := cal_asks B (atAsks X G dAsks) cTake
  have cDrawn := cal_drawn B (atDrawn X G dDrawn) M FI cTake cLab
  have cLaw := cal_alike (P := l.prog) (w := w) (base := base) B (atAlike X G dAlike)
  have cKept := cal_kept B (atKeptRight X G dKeptRight) cLast cTold cAsked
  exact run_law B T ⟨cRef, cMost, cWrong, cHist, cBag, cDrawn, cAsks, cKept, cLaw, mKind, mWith⟩ F
end K17
open PySem PySem.W PyProof.Rows in
set_option maxRecDepth 100000 in
set_option maxHeartbeats 0 in
theorem PySem.Challenge.cw_plancalls_k17_whole_labels_and_histories_holds : PySem.Challenge.rw_plancalls_k17_whole_labels_and_histories.Holds := by
  w_on; o_law; k_head; (case hw => w_witness2)
  k_fill
  refine K17.walk17 (l := PySem.Challenge.rw_plancalls_k17_whole_labels_and_histories) (n := 63) (k := 7) (x := "_law_script") rfl (by decide) rfl ⟨rfl, by decide, by decide⟩ (fun w h Y => PySem.W.kIn_of Y) ?F
  case F =>
    intro w mg fa h KX G hmg
    refine' K17.all17 KX G hmg ?aC ?pg ?hd ?po ?sa ?nC ?nS ?nK ?nR ?nM ?init ?kinds ?last ?gL ?gN ?gM ?gA ?v1 ?v3 ?v4 ?dIsInt ?dIsName ?dIsKind ?dIsRow ?dIsListOf ?dMustAgree ?dRefuting ?dFits ?dMostBound ?dWrongLabels ?dIsShape ?dIsDictOf ?dIsDictOfNames ?dIsAsk ?dAlikeAsks ?dIsHistory ?dEarlier ?dTold ?dAsked ?dLasting ?dBag ?dTake ?dAlike ?dLabels ?dAsks ?dDrawn ?dKeptRight ?dLaw ?dCheckKeys ?dCheckedRefs ?dCheckedMade ?dCheckRings ?dFunctions ?dArguments ?dKind ?dWithKinds ?b_isinstance ?b_int ?b_bool ?b_str ?b_list ?b_tuple ?b_dict ?b_set ?b_len ?b_all ?b_sorted ?b_enumerate ?b_zip ?b_range ?b_abs ?b_repr
    (case aC => k_is)
    (case pg => k_is)
    (case hd => k_is)
    (case po => k_is)
    (case sa => k_is)
    (case nC => k_is)
    (case nS => k_is)
    (case nK => k_is)
    (case nR => k_is)
    (case nM => k_is)
    (case gL => k_is)
    (case gN => k_is)
    (case gM => k_is)
    (case gA => k_is)
    (case v1 => k_is)
    (case v3 => k_is)
    (case v4 => k_is)
    (case dIsInt => refine' K17.stands ?a ?l ?c ?k; (case a => k_is); (case l => k_is); (case c => k_is); (case k => k_is))
    (case dIsName => refine' K17.stands ?a ?l ?c ?k; (case a => k_is); (case l => k_is); (case c => k_is); (case k => k_is))
    (case dIsKind => refine' K17.stands ?a ?l ?c ?k; (case a => k_is); (case l => k_is); (case c => k_is); (case k => k_is))
    (case dIsRow => refine' K17.stands ?a ?l ?c ?k; (case a => k_is); (case l => k_is); (case c => k_is); (case k => k_is))
    (case dIsListOf => refine' K17.stands ?a ?l ?c ?k; (case a => k_is); (case l => k_is); (case c => k_is); (case k => k_is))
    (case dMustAgree => refine' K17.stands ?a ?l ?c ?k; (case a => k_is); (case l => k_is); (case c => k_is); (case k => k_is))
    (case dRefuting => refine' K17.stands ?a ?l ?c ?k; (case a => k_is); (case l => k_is); (case c => k_is); (case k => k_is))
    (case dFits => refine' K17.stands ?a ?l ?c ?k; (case a => k_is); (case l => k_is); (case c => k_is); (case k => k_is))
    (case dMostBound => refine' K17.stands ?a ?l ?c ?k; (case a => k_is); (case l => k_is); (case c => k_is); (case k => k_is))
    (case dWrongLabels => refine' K17.stands ?a ?l ?c ?k; (case a => k_is); (case l => k_is); (case c => k_is); (case k => k_is))
    (case dIsShape => refine' K17.stands ?a ?l ?c ?k; (case a => k_is); (case l => k_is); (case c => k_is); (case k => k_is))
    (case dIsDictOf => refine' K17.stands ?a ?l ?c ?k; (case a => k_is); (case l => k_is); (case c => k_is); (case k => k_is))
    (case dIsDictOfNames => refine' K17.stands ?a ?l ?c ?k; (case a => k_is); (case l => k_is); (case c => k_is); (case k => k_is))
    (case dIsAsk => refine' K17.stands ?a ?l ?c ?k; (case a => k_is); (case l => k_is); (case c => k_is); (case k => k_is))
    (case dAlikeAsks => refine' K17.stands ?a ?l ?c ?k; (case a => k_is); (case l => k_is); (case c => k_is); (case k => k_is))
    (case dIsHistory => refine' K17.stands ?a ?l ?c ?k; (case a => k_is); (case l => k_is); (case c => k_is); (case k => k_is))
    (case dEarlier => refine' K17.stands ?a ?l ?c ?k; (case a => k_is); (case l => k_is); (case c => k_is); (case k => k_is))
    (case dTold => refine' K17.stands ?a ?l ?c ?k; (case a => k_is); (case l => k_is); (case c => k_is); (case k => k_is))
    (case dAsked => refine' K17.stands ?a ?l ?c ?k; (case a => k_is); (case l => k_is); (case c => k_is); (case k => k_is))
    (case dLasting => refine' K17.stands ?a ?l ?c ?k; (case a => k_is); (case l => k_is); (case c => k_is); (case k => k_is))
    (case dBag => refine' K17.stands ?a ?l ?c ?k; (case a => k_is); (case l => k_is); (case c => k_is); (case k => k_is))
    (case dTake => refine' K17.stands ?a ?l ?c ?k; (case a => k_is); (case l => k_is); (case c => k_is); (case k => k_is))
    (case dAlike => refine' K17.stands ?a ?l ?c ?k; (case a => k_is); (case l => k_is); (case c => k_is); (case k => k_is))
    (case dLabels => refine' K17.stands ?a ?l ?c ?k; (case a => k_is); (case l => k_is); (case c => k_is); (case k => k_is))
    (case dAsks => refine' K17.stands ?a ?l ?c ?k; (case a => k_is); (case l => k_is); (case c => k_is); (case k => k_is))
    (case dDrawn => refine' K17.stands ?a ?l ?c ?k; (case a => k_is); (case l => k_is); (case c => k_is); (case k => k_is))
    (case dKeptRight => refine' K17.stands ?a ?l ?c ?k; (case a => k_is); (case l => k_is); (case c => k_is); (case k => k_is))
    (case dLaw => refine' K17.stands ?a ?l ?c ?k; (case a => k_is); (case l => k_is); (case c => k_is); (case k => k_is))
    (case dCheckKeys => refine' K17.mstands ?a ?i ?l ?c ?k; (case a => k_is); (case i => k_is); (case l => k_is); (case c => k_is); (case k => k_is))
    (case dCheckedRefs => refine' K17.mstands ?a ?i ?l ?c ?k; (case a => k_is); (case i => k_is); (case l => k_is); (case c => k_is); (case k => k_is))
    (case dCheckedMade => refine' K17.mstands ?a ?i ?l ?c ?k; (case a => k_is); (case i => k_is); (case l => k_is); (case c => k_is); (case k => k_is))
    (case dCheckRings => refine' K17.mstands ?a ?i ?l ?c ?k; (case a => k_is); (case i => k_is); (case l => k_is); (case c => k_is); (case k => k_is))
    (case dFunctions => refine' K17.mstands ?a ?i ?l ?c ?k; (case a => k_is); (case i => k_is); (case l => k_is); (case c => k_is); (case k => k_is))
    (case dArguments => refine' K17.mstands ?a ?i ?l ?c ?k; (case a => k_is); (case i => k_is); (case l => k_is); (case c => k_is); (case k => k_is))
    (case dKind => refine' K17.mstands ?a ?i ?l ?c ?k; (case a => k_is); (case i => k_is); (case l => k_is); (case c => k_is); (case k => k_is))
    (case dWithKinds => refine' K17.mstands ?a ?i ?l ?c ?k; (case a => k_is); (case i => k_is); (case l => k_is); (case c => k_is); (case k => k_is))
    (case b_isinstance => k_is)
    (case b_int => k_is)
    (case b_bool => k_is)
    (case b_str => k_is)
    (case b_list => k_is)
    (case b_tuple => k_is)
    (case b_dict => k_is)
    (case b_set => k_is)
    (case b_len => k_is)
    (case b_all => k_is)
    (case b_sorted => k_is)
    (case b_enumerate => k_is)
    (case b_zip => k_is)
    (case b_range => k_is)
    (case b_abs => k_is)
    (case b_repr => k_is)
    (case kinds => refine' K17.kstands ?g ?l; (case g => k_is); (case l => k_is))
    (case init => refine' K17.istands ?a ?i ?l ?c ?k ?k1 ?k2 ?k3 ?t1 ?t2 ?mk ?kc; (case a => k_is); (case i => k_is); (case l => k_is); (case c => k_is); (case k => k_is); (case k1 => k_is); (case k2 => k_is); (case k3 => k_is); (case t1 => refine' K17.empK_mk ?e; (case e => k_is)); (case t2 => refine' K17.empK_mk ?e; (case e => k_is)); (case mk => k_is); (case kc => k_is))
    (case last => refine' K17.lstands ?g ?l ?li ?h1 ?h2 ?h3 ?h4; (case g => k_is); (case l => k_is); (case li => exact ⟨⟨_, _, rfl, rfl⟩, ⟨_, _, rfl, rfl⟩, ⟨_, _, rfl, rfl⟩, ⟨_, _, rfl, rfl⟩, trivial⟩); (case h1 => k_is); (case h2 => k_is); (case h3 => k_is); (case h4 => k_is))
