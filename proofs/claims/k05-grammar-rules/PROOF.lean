import PyProof.Rows.All
import Wide.All
import OpenK.AllK
import Wide.FinOn
import HandS.ForMost
import HandS.Style
import HandS.Wide
import HandS.Walk
import HandS.Defaults
import HandS.MakeKwOnly
import HandS.Property
import HandS.DictComp
import HandS.IsInst
import HandS.ClsMeth
import HandS.More
import HandS.Conv
import KE.LtData
import KE.DatumOrd
import HandS.SetTxt0
import HandS.Set
import HandS.TupSets
import KE.KRevSl
import KE.KStateDown
import HandS.Head0
import HandS.Head1
import HandS.Head2
import HandS.HeadEnd
import HandS.HeadHook1
import HandS.HeadHook2
import HandS.HeadHook3
import HandS.HeadNt
import PySem.Challenge.RW_surefaults_k05_grammar_rules
set_option Elab.async false
set_option linter.all false
set_option maxRecDepth 100000
set_option maxHeartbeats 4000000
namespace SF
def SIGNSl : List Nat := [97, 98, 99, 100, 101, 102, 103, 104, 105, 106, 107, 108, 109, 110, 111, 112, 113, 114, 115, 116, 117, 118, 119, 120, 121, 122, 48, 49, 50, 51, 52, 53, 54, 55, 56, 57, 40, 41, 91, 93, 123, 125, 43, 45, 42, 47, 44, 46, 59, 58, 33, 63]
def sgn (c : Nat) : Bool := decide (c ∈ SIGNSl)
def nam (c : Nat) : Bool := decide (65 ≤ c ∧ c ≤ 90)
theorem nam_iff {c : Nat} : nam c = true ↔ 65 ≤ c ∧ c ≤ 90 := by simp [nam]
def isSign : List Nat → Bool
  | [c] => sgn c
  | _ => false
def isName : List Nat → Bool
  | [c] => nam c
  | _ => false
def isBody (l : List Nat) : Bool := decide (l.length ≤ 4) && l.all fun c => sgn c || nam c
/-- the names of a body, in order -/
def namesIn (l : List Nat) : List Nat := l.filter nam
/-- one sign or name as a text -/
abbrev ch1 (l : List Nat) : List (List Nat) := l.map fun c => [c]
abbrev Rule := Nat × List Nat
structure Tri (α β γ : Type) where
  a : α
  b : β
  c : γ
  deriving DecidableEq, Repr
/-! ### a dict as the list of its pairs -/
section
variable {κ κ' α β : Type} [DecidableEq κ] [DecidableEq κ']
def aGet (m : List (κ × α)) (k : κ) : Option α := (m.find? fun p => decide (p.1 = k)).map (·.2)
def aPut (m : List (κ × α)) (k : κ) (x : α) : List (κ × α) :=
  if (m.any fun p => decide (p.1 = k)) = true then m.map (fun p => if p.1 = k then (p.1, x) else p) else m ++ [(k, x)]
theorem aGet_nil {k : κ} : aGet ([] : List (κ × α)) k = none := rfl
theorem aGet_cons {p : κ × α} {m : List (κ × α)} {k : κ} : aGet (p :: m) k = if p.1 = k then some p.2 else aGet m k := by
  unfold aGet
  by_cases h : p.1 = k
  · simp [List.find?_cons, h]
  · simp [List.find?_cons, h]
theorem aGet_any (k : κ) (m : List (κ × α)) : (m.any fun p => decide (p.1 = k)) = (aGet m k).isSome := by
  induction m with
  | nil => rfl
  | cons p r ih =>
    rw [List.any_cons, aGet_cons, ih]
    by_cases h : p.1 = k
    · simp [h]
    · simp [h]
theorem aGet_app {m m2 : List (κ × α)} {k : κ} : aGet (m ++ m2) k = (aGet m k).or (aGet m2 k) := by
  induction m with
  | nil => rfl
  | cons p r ih =>
    rw [List.cons_append, aGet_cons, aGet_cons, ih]
    by_cases h : p.1 = k
    · simp [h]
    · simp [h]
theorem aGet_map (k j : κ) (x : α) (m : List (κ × α)) : aGet (m.map fun p => if p.1 = k then (p.1, x) else p) j = (aGet m j).map fun y => if j = k then x else y := by
  induction m with
  | nil => rfl
  | cons p r ih =>
    rw [List.map_cons, aGet_cons, aGet_cons, ih]
    by_cases h : p.1 = k
    · by_cases h2 : p.1 = j
      · have e : k = j := h.symm.trans h2
        simp [h, e]
      · simp [h]
        have : k ≠ j := fun e => h2 (h.trans e)
        simp [this]
    · by_cases h2 : p.1 = j
      · have : ¬ j = k := fun e => h (h2.trans e)
        simp [h, h2, this]
      · simp [h, h2]
theorem aGet_put (m : List (κ × α)) (k j : κ) (x : α) : aGet (aPut m k x) j = if j = k then some x else aGet m j := by
  unfold aPut
  by_cases h : (m.any fun p => decide (p.1 = k)) = true
  · rw [if_pos h, aGet_map]
    by_cases e : j = k
    · subst e
      rw [aGet_any] at h
      cases q : aGet m j with
      | none => rw [q] at h; exact absurd h (by simp)
      | some y => simp
    · simp [e]
  · rw [if_neg h, aGet_app, aGet_cons]
    rw [aGet_any] at h
    have hn : aGet m k = none := by
      cases q : aGet m k with
      | none => rfl
      | some y => rw [q] at h; simp at h
    by_cases e : j = k
    · subst e; rw [hn]; simp
    · have e' : ¬ k = j := fun z => e z.symm
      simp [e, e', aGet_nil]
theorem aGet_mem {m : List (κ × α)} {k : κ} {x : α} (h : aGet m k = some x) : (k, x) ∈ m := by
  induction m with
  | nil => cases h
  | cons p r ih =>
    rw [aGet_cons] at h
    by_cases e : p.1 = k
    · rw [if_pos e] at h
      cases h
      subst e
      exact List.mem_cons_self
    · rw [if_neg e] at h
      exact List.mem_cons_of_mem _ (ih h)
theorem aGet_of_mem {m : List (κ × α)} {k : κ} {x : α} (hn : (m.map (·.1)).Nodup) (h : (k, x) ∈ m) : aGet m k = some x := by
  induction m with
  | nil => cases h
  | cons p r ih =>
    rw [aGet_cons]
    rw [List.map_cons, List.nodup_cons] at hn
    rcases List.mem_cons.mp h with rfl | h
    · simp
    · have : ¬ p.1 = k := fun e => hn.1 (by rw [e]; exact List.mem_map_of_mem (f := (·.1)) h)
      rw [if_neg this]
      exact ih hn.2 h
theorem aGet_none {m : List (κ × α)} {k : κ} : aGet m k = none ↔ k ∉ m.map (·.1) := by
  induction m with
  | nil => simp [aGet_nil]
  | cons p r ih =>
    rw [aGet_cons]
    by_cases e : p.1 = k
    · simp [e]
    · have e' : ¬ k = p.1 := fun z => e z.symm
      rw [if_neg e, ih]
      simp [e']
theorem aPut_keys (m : List (κ × α)) (k : κ) (x : α) : (aPut m k x).map (·.1) = if (aGet m k).isSome then m.map (·.1) else m.map (·.1) ++ [k] := by
  unfold aPut
  rw [aGet_any]
  by_cases h : (aGet m k).isSome = true
  · rw [if_pos h, if_pos h, List.map_map]
    apply List.map_congr_left
    intro p _
    show (if p.1 = k then (p.1, x) else p).1 = p.1
    split <;> rfl
  · rw [if_neg h, if_neg h, List.map_append]; rfl
theorem aPut_nodup {m : List (κ × α)} {k : κ} {x : α} (h : (m.map (·.1)).Nodup) : ((aPut m k x).map (·.1)).Nodup := by
  rw [aPut_keys]
  split
  · exact h
  · rename_i q
    have hk : k ∉ m.map (·.1) := aGet_none.mp (by cases z : aGet m k with | none => rfl | some y => rw [z] at q; simp at q)
    rw [List.nodup_append]
    exact ⟨h, by simp, fun a ha b hb => by simp at hb; subst hb; exact fun e => hk (e ▸ ha)⟩
theorem aPut_length (m : List (κ × α)) (k : κ) (x : α) : (aPut m k x).length = if (aGet m k).isSome then m.length else m.length + 1 := by
  have := congrArg List.length (aPut_keys m k x)
  rw [List.length_map] at this
  rw [this]
  split <;> simp
end
/-- distinct members of a list are no more than its items -/
theorem nodup_le {α : Type} [DecidableEq α] : ∀ {l s : List α}, l.Nodup → (∀ x ∈ l, x ∈ s) → l.length ≤ s.length
  | [], _, _, _ => Nat.zero_le _
  | a :: l, s, hn, hs => by
    rw [List.nodup_cons] at hn
    have ha : a ∈ s := hs a List.mem_cons_self
    have ih := nodup_le (l := l) (s := s.erase a) hn.2 fun x hx => by
      have hne : x ≠ a := fun e => hn.1 (e ▸ hx)
      exact (List.mem_erase_of_ne hne).mpr (hs x (List.mem_cons_of_mem _ hx))
    rw [List.length_erase_of_mem ha] at ih
    have : 0 < s.length := List.length_pos_of_mem ha
    simp only [List.length_cons]
    omega
/-- as many items as distinct members: no item twice -/
theorem nodup_of_len {α : Type} [DecidableEq α] : ∀ {s l : List α}, l.Nodup → (∀ x ∈ l, x ∈ s) → s.length = l.length → s.Nodup
  | [], _, _, _, _ => List.nodup_nil
  | a :: s, l, hn, hs, hlen => by
    by_cases ha : a ∈ s
    · have h2 : ∀ x ∈ l, x ∈ s := fun x hx => by
        rcases List.mem_cons.mp (hs x hx) with z | z
        · rw [z]; exact ha
        · exact z
      have := nodup_le hn h2
      simp only [List.length_cons] at hlen
      omega
    · rw [List.nodup_cons]
      refine ⟨ha, ?_⟩
      by_cases hal : a ∈ l
      · refine nodup_of_len (l := l.erase a) (hn.erase a) (fun x hx => ?_) ?_
        · have hx' := List.mem_of_mem_erase hx
          rcases List.mem_cons.mp (hs x hx') with z | z
          · subst z; exact absurd hx (List.Nodup.not_mem_erase hn)
          · exact z
        · rw [List.length_erase_of_mem hal]
          simp only [List.length_cons] at hlen
          omega
      · have h2 : ∀ x ∈ l, x ∈ s := fun x hx => by
          rcases List.mem_cons.mp (hs x hx) with z | z
          · subst z; exact absurd hx hal
          · exact z
        have := nodup_le hn h2
        simp only [List.length_cons] at hlen
        omega
theorem nam_few {l : List Nat} (hn : l.Nodup) (hs : ∀ x ∈ l, nam x = true) : l.length ≤ 26 := by
  have := nodup_le (s := (List.range 26).map (· + 65)) hn fun x hx => by
    have := nam_iff.mp (hs x hx)
    rw [List.mem_map]
    exact ⟨x - 65, List.mem_range.mpr (by omega), by omega⟩
  simpa using this
/-! ### sums with one place changed -/
theorem sum_change (f g : Nat → Nat) (j : Nat) (hg : ∀ i, i ≠ j → g i = f i) : ∀ k, ((List.range k).map g).sum + (if j < k then f j else 0) = ((List.range k).map f).sum + (if j < k then g j else 0)
  | 0 => by simp
  | k + 1 => by
    have ih := sum_change f g j hg k
    rw [List.range_succ, List.map_append, List.map_append, List.sum_append, List.sum_append]
    simp only [List.map_cons, List.map_nil, List.sum_cons, List.sum_nil, Nat.add_zero]
    by_cases h1 : j < k
    · rw [if_pos h1, if_pos h1] at ih
      rw [if_pos (by omega), if_pos (by omega), hg k (by omega)]
      omega
    · rw [if_neg h1, if_neg h1] at ih
      by_cases h2 : j = k
      · subst h2
        rw [if_pos (by omega), if_pos (by omega)]
        omega
      · rw [if_neg (by omega), if_neg (by omega), hg k (fun e => h2 e.symm)]
        omega
/-! ### least lengths -/
/-- the sum of what the parts have -/
def total (m : List (Nat × Nat)) (b : List Nat) : Nat := b.length - (namesIn b).length + ((namesIn b).map fun c => (aGet m c).getD 0).sum
def allIn {α : Type} (m : List (Nat × α)) (b : List Nat) : Bool := (namesIn b).all fun c => (aGet m c).isSome
/-- total < what stands there, or nothing stands there -/
def better (m : List (Nat × Nat)) (r : Rule) : Bool := match aGet m r.1 with
  | none => true
  | some x => decide (total m r.2 < x)
def llStep (st : List (Nat × Nat) × Bool) (r : Rule) : List (Nat × Nat) × Bool :=
  if allIn st.1 r.2 = true then (if better st.1 r = true then (aPut st.1 r.1 (total st.1 r.2), true) else st) else st
def llRound (rules : List Rule) (m : List (Nat × Nat)) : List (Nat × Nat) × Bool := rules.foldl llStep (m, false)
/-- rounds until nothing changes -/
def rounds {α : Type} (f : α → α × Bool) : Nat → α → α
  | 0, m => m
  | n + 1, m => if (f m).2 = true then rounds f n (f m).1 else (f m).1
def BIG : Nat := 4 ^ 28
def mu (m : List (Nat × Nat)) : Nat := ((List.range 26).map fun i => (aGet m (65 + i)).getD BIG).sum
def llFuel : Nat := mu [] + 1
def leastLengths (rules : List Rule) : List (Nat × Nat) := rounds (llRound rules) llFuel []
/-- what holds of the lengths at each time -/
structure LLok (m : List (Nat × Nat)) : Prop where
  nd : (m.map (·.1)).Nodup
  nm : ∀ c ∈ m.map (·.1), nam c = true
  le : ∀ c x, aGet m c = some x → x ≤ 4 ^ m.length
theorem LLok.few {m : List (Nat × Nat)} (h : LLok m) : m.length ≤ 26 := by
  have := nam_few h.nd h.nm
  rwa [List.length_map] at this
theorem LLok.nil : LLok [] := ⟨by simp, by simp, fun c x h => by cases h⟩
theorem namesIn_le (b : List Nat) : (namesIn b).length ≤ b.length := List.length_filter_le _ _
theorem sum_le_mul {α : Type} (f : α → Nat) (B : Nat) : ∀ (l : List α), (∀ c ∈ l, f c ≤ B) → (l.map f).sum ≤ l.length * B
  | [], _ => by simp
  | a :: l, h => by
    have ih := sum_le_mul f B l fun c hc => h c (List.mem_cons_of_mem _ hc)
    have := h a List.mem_cons_self
    simp only [List.map_cons, List.sum_cons, List.length_cons, Nat.succ_mul]
    omega
theorem pow4_pos (n : Nat) : 1 ≤ 4 ^ n := Nat.pow_pos (by decide)
theorem total_le {m : List (Nat × Nat)} (h : LLok m) {b : List Nat} (hb : b.length ≤ 4) : total m b ≤ 4 ^ (m.length + 1) := by
  unfold total
  have h1 := namesIn_le b
  have h2 := sum_le_mul (fun c => (aGet m c).getD 0) (4 ^ m.length) (namesIn b) fun c _ => by
    cases q : aGet m c with
    | none => simp
    | some x => exact h.le c x q
  have h3 := pow4_pos m.length
  have h4 : (b.length - (namesIn b).length) * 1 ≤ (b.length - (namesIn b).length) * 4 ^ m.length := Nat.mul_le_mul_left _ h3
  have h5 : (b.length - (namesIn b).length) * 4 ^ m.length + (namesIn b).length * 4 ^ m.length = b.length * 4 ^ m.length := by
    rw [← Nat.add_mul]
    congr 1
    omega
  have h6 : b.length * 4 ^ m.length ≤ 4 * 4 ^ m.length := Nat.mul_le_mul_right _ hb
  rw [Nat.pow_succ, Nat.mul_comm]
  omega
theorem LLok.put {m : List (Nat × Nat)} (h : LLok m) {r : Rule} (hn : nam r.1 = true) (hb : r.2.length ≤ 4) : better m r = true → LLok (aPut m r.1 (total m r.2)) := fun hbt => by
  refine ⟨aPut_nodup h.nd, fun c hc => ?_, fun c x hx => ?_⟩
  · rw [aPut_keys] at hc
    split at hc
    · exact h.nm c hc
    · rcases List.mem_append.mp hc with hc | hc
      · exact h.nm c hc
      · simp at hc; subst hc; exact hn
  · rw [aGet_put] at hx
    rw [aPut_length]
    unfold better at hbt
    by_cases e : c = r.1
    · subst e
      rw [if_pos rfl] at hx
      cases hx
      cases q : aGet m r.1 with
      | none => simp only [Option.isSome_none, Bool.false_eq_true, if_false]; exact total_le h hb
      | some y =>
        rw [q] at hbt
        have := h.le _ _ q
        simp only [Option.isSome_some, if_true]
        have : total m r.2 < y := of_decide_eq_true hbt
        omega
    · rw [if_neg e] at hx
      have := h.le _ _ hx
      split
      · exact this
      · have := Nat.pow_le_pow_right (show 0 < 4 by decide) (show m.length ≤ m.length + 1 by omega)
        omega
theorem mu_put {m : List (Nat × Nat)} (h : LLok m) {r : Rule} (hn : nam r.1 = true) (hb : r.2.length ≤ 4) (hbt : better m r = true) : mu (aPut m r.1 (total m r.2)) < mu m := by
  have hr := nam_iff.mp hn
  have key := sum_change (fun i => (aGet m (65 + i)).getD BIG) (fun i => (aGet (aPut m r.1 (total m r.2)) (65 + i)).getD BIG) (r.1 - 65) (fun i hi => by
    show (aGet (aPut m r.1 (total m r.2)) (65 + i)).getD BIG = _
    rw [aGet_put, if_neg (by omega)]) 26
  rw [if_pos (by omega), if_pos (by omega)] at key
  have e : 65 + (r.1 - 65) = r.1 := by omega
  simp only [e] at key
  rw [aGet_put, if_pos rfl] at key
  unfold better at hbt
  have hlt : total m r.2 < (aGet m r.1).getD BIG := by
    cases q : aGet m r.1 with
    | some y => rw [q] at hbt; exact of_decide_eq_true hbt
    | none =>
      have h1 := total_le h hb
      have h2 := h.few
      have h3 := Nat.pow_le_pow_right (show 0 < 4 by decide) (show m.length + 1 ≤ 27 by omega)
      have h4 : (4 : Nat) ^ 27 < BIG := by unfold BIG; decide
      show total m r.2 < BIG
      omega
  unfold mu
  simp only [Option.getD_some] at key
  omega
/-- rules that a grammar may have -/
def RulesOk (rules : List Rule) : Prop := ∀ r ∈ rules, nam r.1 = true ∧ r.2.length ≤ 4 ∧ ∀ c ∈ r.2, (sgn c || nam c) = true
theorem llStep_ok {st : List (Nat × Nat) × Bool} (h : LLok st.1) {r : Rule} (hn : nam r.1 = true) (hb : r.2.length ≤ 4) : LLok (llStep st r).1 := by
  unfold llStep
  split
  · split
    · rename_i hbt; exact h.put hn hb hbt
    · exact h
  · exact h
/-- behind some steps: fewer is left, or nothing changed -/
theorem llFold {rules : List Rule} : ∀ (st : List (Nat × Nat) × Bool), (∀ r ∈ rules, nam r.1 = true ∧ r.2.length ≤ 4) → LLok st.1 →
    LLok (rules.foldl llStep st).1 ∧ mu (rules.foldl llStep st).1 ≤ mu st.1 ∧ (st.2 = false → (rules.foldl llStep st).2 = true → mu (rules.foldl llStep st).1 < mu st.1) ∧ ((rules.foldl llStep st).2 = false → (rules.foldl llStep st) = st) := by
  induction rules with
  | nil =>
    intro st _ h
    refine ⟨h, Nat.le_refl _, fun h1 h2 => ?_, fun _ => rfl⟩
    rw [List.foldl_nil, h1] at h2
    cases h2
  | cons r rest ih =>
    intro st hr h
    have hr0 := hr r List.mem_cons_self
    have h1 := llStep_ok h hr0.1 hr0.2
    obtain ⟨a1, a2, a3, a4⟩ := ih (llStep st r) (fun x hx => hr x (List.mem_cons_of_mem _ hx)) h1
    rw [List.foldl_cons]
    refine ⟨a1, ?_, ?_, ?_⟩
    · have : mu (llStep st r).1 ≤ mu st.1 := by
        unfold llStep
        split
        · split
          · rename_i hbt; exact Nat.le_of_lt (mu_put h hr0.1 hr0.2 hbt)
          · exact Nat.le_refl _
        · exact Nat.le_refl _
      omega
    · intro q1 q2
      by_cases hch : (llStep st r).2 = false
      · have := a3 hch q2
        have : mu (llStep st r).1 ≤ mu st.1 := by
          unfold llStep
          split
          · split
            · rename_i hbt; exact Nat.le_of_lt (mu_put h hr0.1 hr0.2 hbt)
            · exact Nat.le_refl _
          · exact Nat.le_refl _
        omega
      · have : mu (llStep st r).1 < mu st.1 := by
          unfold llStep at hch ⊢
          split
          · split
            · rename_i hbt; exact mu_put h hr0.1 hr0.2 hbt
            · rename_i x y; simp [x, y, q1] at hch
          · rename_i x; simp [x, q1] at hch
        omega
    · intro q
      have e := a4 q
      rw [e] at q
      rw [e]
      unfold llStep at q ⊢
      split
      · split
        · rename_i x y; simp [x, y] at q
        · rfl
      · rfl
end SF
namespace SF
/-! ### useful numbers -/
def letters : List Nat := (List.range 26).map (· + 65)
theorem letters_mem {c : Nat} : c ∈ letters ↔ nam c = true := by
  unfold letters
  rw [nam_iff, List.mem_map]
  constructor
  · rintro ⟨i, hi, rfl⟩
    have := List.mem_range.mp hi
    omega
  · intro h
    exact ⟨c - 65, List.mem_range.mpr (by omega), by omega⟩
/-- the names of a body, each once, ascending -/
def sortedNames (b : List Nat) : List Nat := letters.filter fun c => decide (c ∈ b)
theorem sortedNames_mem {b : List Nat} {c : Nat} : c ∈ sortedNames b ↔ c ∈ namesIn b := by
  unfold sortedNames namesIn
  rw [List.mem_filter, List.mem_filter, letters_mem, decide_eq_true_eq]
  exact And.comm
def uStep {α : Type} (lens : List (Nat × α)) (c : Nat) (re : List Nat) (r : Rule) : List Nat :=
  if r.1 = c ∧ allIn lens r.2 = true then re ++ (sortedNames r.2).filter fun x => decide (x ∉ re) else re
def ureach {α : Type} (rules : List Rule) (lens : List (Nat × α)) : Nat → List Nat → Nat → List Nat
  | 0, re, _ => re
  | n + 1, re, i => match re[i]? with
    | none => re
    | some c => ureach rules lens n (rules.foldl (uStep lens c) re) (i + 1)
theorem ureach_some {α : Type} {rules : List Rule} {lens : List (Nat × α)} {n i c : Nat} {re : List Nat} (h : re[i]? = some c) : ureach rules lens (n + 1) re i = ureach rules lens n (rules.foldl (uStep lens c) re) (i + 1) := by
  show (match re[i]? with | none => re | some c => ureach rules lens n (rules.foldl (uStep lens c) re) (i + 1)) = _
  rw [h]
theorem ureach_none {α : Type} {rules : List Rule} {lens : List (Nat × α)} {n i : Nat} {re : List Nat} (h : re[i]? = none) : ureach rules lens n re i = re := by
  cases n with
  | zero => rfl
  | succ n =>
    show (match re[i]? with | none => re | some c => ureach rules lens n (rules.foldl (uStep lens c) re) (i + 1)) = _
    rw [h]
def reached {α : Type} (rules : List Rule) (root : Nat) (lens : List (Nat × α)) : List Nat := ureach rules lens 27 [root] 0
def usefulAt {α : Type} (re : List Nat) (lens : List (Nat × α)) (r : Rule) : Bool := decide (r.1 ∈ re) && allIn lens r.2
def usefulNumbers {α : Type} (rules : List Rule) (root : Nat) (lens : List (Nat × α)) : List Nat :=
  (rules.zipIdx.filter fun p => usefulAt (reached rules root lens) lens p.1).map (·.2)
/-- distinct names -/
def NmOk (re : List Nat) : Prop := re.Nodup ∧ ∀ c ∈ re, nam c = true
theorem NmOk.few {re : List Nat} (h : NmOk re) : re.length ≤ 26 := nam_few h.1 h.2
theorem letters_asc : letters.Pairwise (· < ·) := by
  unfold letters
  rw [List.pairwise_map]
  exact (List.pairwise_lt_range (n := 26)).imp fun h => by omega
theorem sortedNames_asc (b : List Nat) : (sortedNames b).Pairwise (· < ·) := List.Pairwise.filter _ letters_asc
theorem sortedNames_nodup (b : List Nat) : (sortedNames b).Nodup := (sortedNames_asc b).imp fun h => Nat.ne_of_lt h
theorem uStep_ok {α : Type} {lens : List (Nat × α)} {c : Nat} {re : List Nat} {r : Rule} (h : NmOk re) : NmOk (uStep lens c re r) := by
  unfold uStep
  split
  · refine ⟨?_, fun x hx => ?_⟩
    · rw [List.nodup_append]
      refine ⟨h.1, List.Pairwise.filter _ (sortedNames_nodup r.2), fun a ha b hb e => ?_⟩
      have := (List.mem_filter.mp hb).2
      rw [decide_eq_true_eq] at this
      exact this (e ▸ ha)
    · rcases List.mem_append.mp hx with z | z
      · exact h.2 x z
      · have := (List.mem_filter.mp (List.mem_filter.mp z).1).1
        exact letters_mem.mp this
  · exact h
theorem uFold_ok {α : Type} {lens : List (Nat × α)} {c : Nat} : ∀ {rules : List Rule} {re : List Nat}, NmOk re → NmOk (rules.foldl (uStep lens c) re)
  | [], _, h => h
  | r :: rest, re, h => uFold_ok (rules := rest) (uStep_ok (r := r) h)
theorem uStep_pre {α : Type} {lens : List (Nat × α)} {c : Nat} {re : List Nat} {r : Rule} : re <+: uStep lens c re r := by
  unfold uStep
  split
  · exact List.prefix_append _ _
  · exact List.prefix_refl _
theorem uFold_pre {α : Type} {lens : List (Nat × α)} {c : Nat} : ∀ {rules : List Rule} {re : List Nat}, re <+: rules.foldl (uStep lens c) re
  | [], re => List.prefix_refl _
  | r :: rest, re => (uStep_pre (r := r)).trans (uFold_pre (rules := rest))
/-- two ascending lists without doubles and with the same members are one -/
theorem asc_eq : ∀ {l m : List Nat}, l.Pairwise (· < ·) → m.Pairwise (· < ·) → (∀ x, x ∈ l ↔ x ∈ m) → l = m
  | [], [], _, _, _ => rfl
  | [], b :: m, _, _, h => absurd ((h b).mpr List.mem_cons_self) (by simp)
  | a :: l, [], _, _, h => absurd ((h a).mp List.mem_cons_self) (by simp)
  | a :: l, b :: m, h1, h2, h => by
    rw [List.pairwise_cons] at h1 h2
    have hab : a = b := by
      rcases List.mem_cons.mp ((h a).mp List.mem_cons_self) with z | z
      · exact z
      · rcases List.mem_cons.mp ((h b).mpr List.mem_cons_self) with y | y
        · exact y.symm
        · have q1 := h2.1 a z
          have q2 := h1.1 b y
          omega
    subst hab
    rw [asc_eq h1.2 h2.2 fun x => ?_]
    constructor
    · intro hx
      rcases List.mem_cons.mp ((h x).mp (List.mem_cons_of_mem _ hx)) with z | z
      · subst z; exact absurd (h1.1 x hx) (Nat.lt_irrefl _)
      · exact z
    · intro hx
      rcases List.mem_cons.mp ((h x).mpr (List.mem_cons_of_mem _ hx)) with z | z
      · subst z; exact absurd (h2.1 x hx) (Nat.lt_irrefl _)
      · exact z
end SF
namespace SF
open PySem PySem.Spec PyProof.Rows L2
/-! ### texts as lists of code points -/
/-- the text of these code points -/
abbrev S (l : List Nat) : Str := ⟨l.toArray⟩
theorem S_len (l : List Nat) : (S l).length = l.length := by
  show l.toArray.size = _
  simp
theorem S_app (a b : List Nat) : (S a ++ S b : Str) = S (a ++ b) := by
  show (⟨a.toArray ++ b.toArray⟩ : Str) = ⟨(a ++ b).toArray⟩
  simp
theorem S_inj {a b : List Nat} : S a = S b ↔ a = b := by
  constructor
  · intro h
    have q := congrArg (fun z : Str => z.cps.toList) h
    simpa using q
  · intro h
    rw [h]
theorem S_cps (l : List Nat) : (S l).cps.toList = l := by simp
theorem S_of (z : Str) : S z.cps.toList = z := by
  cases z
  simp [S]
theorem S_cut (l : List Nat) (lo hi : Option Int) : cutS (S l) lo hi = S ((l.drop (HT.sIx l.length 0 lo)).take (HT.sIx l.length l.length hi - HT.sIx l.length 0 lo)) := by
  unfold cutS
  rw [S_len, S_cps]
/-! ### constants of the module -/
section
variable {X : Cx}
theorem pe_globs {x z : Str} {pos : Pos} (hg : Gl X x) (hm : ∃ t, X.mg x = some (.str z t)) (hd : (x == ("__debug__" : Str)) = false := by decide) : PE X (.Name x pos) (tC (.str z)) := by
  obtain ⟨t, hm⟩ := hm
  exact pe_glob hg hm ⟨t, rfl⟩ hd
theorem pe_globi {x : Str} {i : Int} {pos : Pos} (hg : Gl X x) (hm : ∃ t, X.mg x = some (.int i t)) (hd : (x == ("__debug__" : Str)) = false := by decide) : PE X (.Name x pos) (tC (.int i)) := by
  obtain ⟨t, hm⟩ := hm
  exact pe_glob hg hm ⟨t, rfl⟩ hd
end
/-! ### what is frozen within what is tracked: F ⊆ H, F never changes but grows -/
structure Ext (F H F' H' : Hp) : Prop where
  hh : Same H H'
  ff : Same F F'
  fh : Same F' H'
  nf : ∀ b, H b ≠ none → F b = none → F' b = none
theorem Ext.refl {F H : Hp} (s : Same F H) : Ext F H F H := ⟨Same.refl _, Same.refl _, s, fun _ _ h => h⟩
theorem Ext.trans {F H F1 H1 F2 H2 : Hp} (a : Ext F H F1 H1) (b : Ext F1 H1 F2 H2) : Ext F H F2 H2 :=
  ⟨a.hh.trans b.hh, a.ff.trans b.ff, b.fh, fun c hc hf => by
    refine b.nf c ?_ (a.nf c hc hf)
    cases q : H c with
    | none => exact absurd q hc
    | some o => rw [a.hh c o q]; simp⟩
/-- a new frozen object -/
theorem Ext.newF {F H F1 H1 : Hp} {p : Addr} {o : HO} (e : Ext F H F1 H1) (hp : H1 p = none) : Ext F H (upd F1 p o) (upd H1 p o) where
  hh := fun b u q => by rw [upd_ne (ne_of_none (e.hh b u q) hp)]; exact e.hh b u q
  ff := fun b u q => by rw [upd_ne (ne_of_none (e.fh b u (e.ff b u q)) hp)]; exact e.ff b u q
  fh := fun b u q => by
    by_cases hb : b = p
    · subst hb; rw [upd_same] at q ⊢; exact q
    · rw [upd_ne hb] at q ⊢; exact e.fh b u q
  nf := fun b hb hf => by
    have hbp : b ≠ p := by
      rintro rfl
      cases q : H b with
      | none => exact hb q
      | some u => rw [e.hh b u q] at hp; cases hp
    rw [upd_ne hbp]; exact e.nf b hb hf
/-- a new object that may change -/
theorem Ext.newM {F H F1 H1 : Hp} {p : Addr} {o : HO} (e : Ext F H F1 H1) (hp : H1 p = none) : Ext F H F1 (upd H1 p o) where
  hh := fun b u q => by rw [upd_ne (ne_of_none (e.hh b u q) hp)]; exact e.hh b u q
  ff := e.ff
  fh := fun b u q => by rw [upd_ne (ne_of_none (e.fh b u q) hp)]; exact e.fh b u q
  nf := e.nf
/-- a change of an object that is neither frozen nor elder -/
theorem Ext.set {F H F1 H1 : Hp} {p : Addr} {o : HO} (e : Ext F H F1 H1) (hp : H p = none) (hf : F1 p = none) : Ext F H F1 (upd H1 p o) where
  hh := fun b u q => by rw [upd_ne (ne_of_none q hp)]; exact e.hh b u q
  ff := e.ff
  fh := fun b u q => by rw [upd_ne (ne_of_none q hf)]; exact e.fh b u q
  nf := e.nf
/-- a new object is frozen -/
theorem Ext.frz {F H F1 H1 : Hp} {p : Addr} {o : HO} (e : Ext F H F1 H1) (hp : H p = none) (h1 : H1 p = some o) (hf : F1 p = none) : Ext F H (upd F1 p o) H1 where
  hh := e.hh
  ff := fun b u q => by rw [upd_ne (ne_of_none (e.ff b u q) hf)]; exact e.ff b u q
  fh := fun b u q => by
    by_cases hb : b = p
    · subst hb; rw [upd_same] at q; cases q; exact h1
    · rw [upd_ne hb] at q; exact e.fh b u q
  nf := fun b hb hfb => by
    have hbp : b ≠ p := by
      rintro rfl
      exact hb hp
    rw [upd_ne hbp]; exact e.nf b hb hfb
theorem Ext.free {F H F1 H1 : Hp} {p : Addr} (e : Ext F H F1 H1) (hp : H1 p = none) : H p = none := e.hh.free hp
theorem Ext.freeF {F H F1 H1 : Hp} {p : Addr} (e : Ext F H F1 H1) (hp : H1 p = none) : F1 p = none := e.fh.free hp
theorem Ext.sm {F H F1 H1 : Hp} (e : Ext F H F1 H1) : Same F H1 := e.ff.trans e.fh
theorem same_newF {F H : Hp} {p : Addr} {o : HO} (s : Same F H) (hp : H p = none) : Same F (upd F p o) := fun b u q => by rw [upd_ne (ne_of_none (s b u q) hp)]; exact q
/-! ### relations: which value bears which datum, over the frozen part -/
abbrev Rl (α : Type) := Hp → V → α → Prop
class Mono {α : Type} (r : Rl α) : Prop where
  mono : ∀ {F F' : Hp} {v : V} {x : α}, Same F F' → r F v x → r F' v x
def rI : Rl Int := fun _ v x => v = .int x
def rS : Rl (List Nat) := fun _ v x => v = .str (S x)
def rB : Rl Bool := fun _ v x => v = .bl x
def rO {α : Type} (r : Rl α) : Rl (Option α) := fun F v x => match x with
  | none => v = .non
  | some y => r F v y
abbrev Al {α : Type} (r : Rl α) (F : Hp) : List V → List α → Prop := Paired (fun v x => r F v x)
def rL {α : Type} (r : Rl α) : Rl (List α) := fun F v xs => ∃ a vs, v = .ref a ∧ F a = some (.lst vs) ∧ Al r F vs xs
def rP {α β : Type} (r : Rl α) (s : Rl β) : Rl (α × β) := fun F v x => ∃ a u w, v = .ref a ∧ F a = some (.tup [u, w]) ∧ r F u x.1 ∧ s F w x.2
def rT {α β γ : Type} (r : Rl α) (s : Rl β) (t : Rl γ) : Rl (Tri α β γ) := fun F v x => ∃ a u w z, v = .ref a ∧ F a = some (.tup [u, w, z]) ∧ r F u x.a ∧ s F w x.b ∧ t F z x.c
instance : Mono rI := ⟨fun _ h => h⟩
instance : Mono rS := ⟨fun _ h => h⟩
instance : Mono rB := ⟨fun _ h => h⟩
instance {α : Type} {r : Rl α} [Mono r] : Mono (rO r) := ⟨fun {F F' v x} s h => by
  cases x with
  | none => exact h
  | some y => exact Mono.mono (r := r) s h⟩
theorem Al.mono {α : Type} {r : Rl α} [Mono r] {F F' : Hp} (s : Same F F') : ∀ {vs : List V} {xs : List α}, Al r F vs xs → Al r F' vs xs
  | _, _, .nil => .nil
  | _, _, .cons h t => .cons (Mono.mono s h) (Al.mono s t)
instance {α : Type} {r : Rl α} [Mono r] : Mono (rL r) := ⟨fun s h => by
  obtain ⟨a, vs, e, h1, h2⟩ := h
  exact ⟨a, vs, e, s _ _ h1, Al.mono s h2⟩⟩
instance {α β : Type} {r : Rl α} {t : Rl β} [Mono r] [Mono t] : Mono (rP r t) := ⟨fun s h => by
  obtain ⟨a, u, w, e, h1, h2, h3⟩ := h
  exact ⟨a, u, w, e, s _ _ h1, Mono.mono s h2, Mono.mono s h3⟩⟩
instance {α β γ : Type} {r : Rl α} {t : Rl β} {q : Rl γ} [Mono r] [Mono t] [Mono q] : Mono (rT r t q) := ⟨fun s h => by
  obtain ⟨a, u, w, z, e, h1, h2, h3, h4⟩ := h
  exact ⟨a, u, w, z, e, s _ _ h1, Mono.mono s h2, Mono.mono s h3, Mono.mono s h4⟩⟩
theorem Al.len {α : Type} {r : Rl α} {F : Hp} {vs : List V} {xs : List α} (h : Al r F vs xs) : vs.length = xs.length := Paired.length h
theorem Al.get {α : Type} {r : Rl α} {F : Hp} : ∀ {vs : List V} {xs : List α} {i : Nat} {v : V}, Al r F vs xs → vs[i]? = some v → ∃ x, xs[i]? = some x ∧ r F v x
  | _, _, i, _, .nil, e => by simp at e
  | _, _, 0, _, .cons h _, e => by simp at e; subst e; exact ⟨_, rfl, h⟩
  | _, _, i + 1, _, .cons _ t, e => by
    obtain ⟨x, h1, h2⟩ := Al.get (i := i) t (by simpa using e)
    exact ⟨x, by simpa using h1, h2⟩
theorem Al.get' {α : Type} {r : Rl α} {F : Hp} : ∀ {vs : List V} {xs : List α} {i : Nat} {x : α}, Al r F vs xs → xs[i]? = some x → ∃ v, vs[i]? = some v ∧ r F v x
  | _, _, i, _, .nil, e => by simp at e
  | _, _, 0, _, .cons h _, e => by simp at e; subst e; exact ⟨_, rfl, h⟩
  | _, _, i + 1, _, .cons _ t, e => by
    obtain ⟨x, h1, h2⟩ := Al.get' (i := i) t (by simpa using e)
    exact ⟨x, by simpa using h1, h2⟩
theorem Al.app {α : Type} {r : Rl α} {F : Hp} : ∀ {vs ws : List V} {xs ys : List α}, Al r F vs xs → Al r F ws ys → Al r F (vs ++ ws) (xs ++ ys)
  | _, _, _, _, .nil, s => s
  | _, _, _, _, .cons h t, s => .cons h (Al.app t s)
theorem Al.snoc {α : Type} {r : Rl α} {F : Hp} {vs : List V} {xs : List α} {v : V} {x : α} (h : Al r F vs xs) (q : r F v x) : Al r F (vs ++ [v]) (xs ++ [x]) := h.app (.cons q .nil)
theorem Al.ints {F : Hp} : ∀ {vs : List V} {xs : List Int}, Al rI F vs xs → vs = xs.map V.int
  | _, _, .nil => rfl
  | _, _, .cons h t => by rw [Al.ints t, show _ = _ from h]; rfl
theorem Al.of_ints {F : Hp} : ∀ (xs : List Int), Al rI F (xs.map V.int) xs
  | [] => .nil
  | _ :: r => .cons rfl (Al.of_ints r)
theorem Al.strs {F : Hp} : ∀ {vs : List V} {xs : List (List Nat)}, Al rS F vs xs → vs = xs.map fun l => V.str (S l)
  | _, _, .nil => rfl
  | _, _, .cons h t => by rw [Al.strs t, show _ = _ from h]; rfl
theorem Al.of_strs {F : Hp} : ∀ (xs : List (List Nat)), Al rS F (xs.map fun l => V.str (S l)) xs
  | [] => .nil
  | _ :: r => .cons rfl (Al.of_strs r)
theorem Al.bls {F : Hp} : ∀ {vs : List V} {xs : List Bool}, Al rB F vs xs → vs = xs.map V.bl
  | _, _, .nil => rfl
  | _, _, .cons h t => by rw [Al.bls t, show _ = _ from h]; rfl
theorem Al.of_bls {F : Hp} : ∀ (xs : List Bool), Al rB F (xs.map V.bl) xs
  | [] => .nil
  | _ :: r => .cons rfl (Al.of_bls r)
theorem take_more {α : Type} : ∀ {l : List α} {i : Nat} {x : α}, l[i]? = some x → l.take (i + 1) = l.take i ++ [x]
  | [], i, x, h => by simp at h
  | a :: l, 0, x, h => by
    have e : a = x := Option.some.inj h
    subst e
    rfl
  | a :: l, i + 1, x, h => by
    have ih := take_more (l := l) (i := i) (x := x) h
    show a :: l.take (i + 1) = a :: l.take i ++ [x]
    rw [ih]
    rfl
theorem sl64 : sizeLine = 16777216 := sizeLine_eq
/-! ### promises of defs without side effects: from data to a datum -/
def Pu1 {α β : Type} (ra : Rl α) (pre : α → Prop) (rb : Rl β) (f : α → β) : Sp := fun vs H Q _ => ∃ F v0 x, vs = [v0] ∧ Same F H ∧ ra F v0 x ∧ pre x ∧ ∀ v F' H', Ext F H F' H' → rb F' v (f x) → Q v H'
def Pu2 {α α2 β : Type} (ra : Rl α) (ra2 : Rl α2) (pre : α → α2 → Prop) (rb : Rl β) (f : α → α2 → β) : Sp := fun vs H Q _ =>
  ∃ F v0 v1 x y, vs = [v0, v1] ∧ Same F H ∧ ra F v0 x ∧ ra2 F v1 y ∧ pre x y ∧ ∀ v F' H', Ext F H F' H' → rb F' v (f x y) → Q v H'
def Pu3 {α α2 α3 β : Type} (ra : Rl α) (ra2 : Rl α2) (ra3 : Rl α3) (pre : α → α2 → α3 → Prop) (rb : Rl β) (f : α → α2 → α3 → β) : Sp := fun vs H Q _ =>
  ∃ F v0 v1 v2 x y z, vs = [v0, v1, v2] ∧ Same F H ∧ ra F v0 x ∧ ra2 F v1 y ∧ ra3 F v2 z ∧ pre x y z ∧ ∀ v F' H', Ext F H F' H' → rb F' v (f x y z) → Q v H'
theorem S_get {l : List Nat} {i : Nat} {c : Nat} (h : (S l).cps[i]? = some c) : l[i]? = some c := by simpa using h
theorem S_size (l : List Nat) : (S l).cps.size = l.length := by simp
theorem map_more {α β : Type} {f : α → β} {l : List α} {i : Nat} {x : α} (h : l[i]? = some x) : (l.take (i + 1)).map f = (l.take i).map f ++ [f x] := by rw [take_more h, List.map_append]; rfl
theorem filter_yes {α : Type} {p : α → Bool} {l : List α} {i : Nat} {x : α} (h : l[i]? = some x) (q : p x = true) : (l.take (i + 1)).filter p = (l.take i).filter p ++ [x] := by rw [take_more h, List.filter_append]; simp [q]
theorem filter_no {α : Type} {p : α → Bool} {l : List α} {i : Nat} {x : α} (h : l[i]? = some x) (q : p x = false) : (l.take (i + 1)).filter p = (l.take i).filter p := by rw [take_more h, List.filter_append]; simp [q]
/-! ### comprehensions: the new list at D holds what is made so far -/
def LcI {β : Type} (r : Rl β) (F H1 : Hp) (D : Addr) (out : Nat → List β) : Nat → Hp → Prop := fun i H => ∃ F' ws, Ext F H1 F' H ∧ F' D = none ∧ H D = some (.lst ws) ∧ Al r F' ws (out i)
theorem LcI.start {β : Type} {r : Rl β} {F H1 : Hp} {D : Addr} {out : Nat → List β} (s : Same F H1) (hD : H1 D = none) (h0 : out 0 = []) : LcI r F H1 D out 0 (upd H1 D (.lst [])) :=
  ⟨F, [], (Ext.refl s).newM hD, s.free hD, upd_same, by rw [h0]; exact .nil⟩
theorem LcI.yes {β : Type} {r : Rl β} [Mono r] {F H1 F' H' F4 H4 : Hp} {D : Addr} {out : Nat → List β} {i : Nat} {ws : List V} {y : V} (d : β) (hD1 : H1 D = none) (e : Ext F H1 F' H') (fD : F' D = none) (hD : H' D = some (.lst ws)) (al : Al r F' ws (out i))
    (e4 : Ext F' H' F4 H4) (q : r F4 y d) (ho : out (i + 1) = out i ++ [d]) (hz : (out i).length < sizeLine) : ∃ acc, H4 D = some (.lst acc) ∧ acc.length < sizeLine ∧ LcI r F H1 D out (i + 1) (upd H4 D (.lst (acc ++ [y]))) := by
  have f4 : F4 D = none := e4.nf D (by rw [hD]; simp) fD
  refine ⟨ws, e4.hh _ _ hD, by rw [al.len]; exact hz, F4, ws ++ [y], (e.trans e4).set hD1 f4, f4, upd_same, ?_⟩
  rw [ho]
  exact (al.mono e4.ff).snoc q
theorem LcI.no {β : Type} {r : Rl β} [Mono r] {F H1 F' H' F4 H4 : Hp} {D : Addr} {out : Nat → List β} {i : Nat} {ws : List V} (e : Ext F H1 F' H') (fD : F' D = none) (hD : H' D = some (.lst ws)) (al : Al r F' ws (out i))
    (e4 : Ext F' H' F4 H4) (ho : out (i + 1) = out i) : LcI r F H1 D out (i + 1) H4 :=
  ⟨F4, ws, e.trans e4, e4.nf D (by rw [hD]; simp) fD, e4.hh _ _ hD, by rw [ho]; exact al.mono e4.ff⟩
/-- the made list, frozen -/
theorem LcI.frz {β : Type} {r : Rl β} [Mono r] {F H1 H' : Hp} {D : Addr} {out : Nat → List β} {n : Nat} (h : LcI r F H1 D out n H') (hD1 : H1 D = none) : ∃ F' vs, Ext F H1 F' H' ∧ F' D = some (.lst vs) ∧ Al r F' vs (out n) := by
  obtain ⟨F', ws, e, fD, hD, al⟩ := h
  exact ⟨_, ws, e.frz hD1 hD fD, upd_same, al.mono (fun b u q => by rw [upd_ne (ne_of_none q fD)]; exact q)⟩
/-! ### dicts -/
section
variable {κ κ' α : Type} [DecidableEq κ] [DecidableEq κ']
def AD (enc : κ → κ') (r : Rl α) (F : Hp) : List (κ' × V) → List (κ × α) → Prop := Paired fun kv x => kv.1 = enc x.1 ∧ r F kv.2 x.2
theorem AD.mono {enc : κ → κ'} {r : Rl α} [Mono r] {F F' : Hp} (s : Same F F') : ∀ {kvs : List (κ' × V)} {m : List (κ × α)}, AD enc r F kvs m → AD enc r F' kvs m
  | _, _, .nil => .nil
  | _, _, .cons h t => .cons ⟨h.1, Mono.mono s h.2⟩ (AD.mono s t)
theorem AD.len {enc : κ → κ'} {r : Rl α} {F : Hp} {kvs : List (κ' × V)} {m : List (κ × α)} (h : AD enc r F kvs m) : kvs.length = m.length := Paired.length h
theorem AD.get {enc : κ → κ'} (inj : ∀ a b, enc a = enc b → a = b) {r : Rl α} {F : Hp} (k : κ) : ∀ {kvs : List (κ' × V)} {m : List (κ × α)}, AD enc r F kvs m →
    (aGet m k = none ∧ valV kvs (enc k) = none) ∨ ∃ x v, aGet m k = some x ∧ valV kvs (enc k) = some v ∧ r F v x
  | _, _, .nil => .inl ⟨rfl, rfl⟩
  | _, _, .cons (a := kv) (b := x) h t => by
    rw [aGet_cons]
    by_cases e : x.1 = k
    · rw [if_pos e]
      exact .inr ⟨x.2, kv.2, rfl, valV_pos (by rw [h.1, e]), h.2⟩
    · rw [if_neg e, valV_neg (fun z => e (inj _ _ (h.1.symm.trans z)))]
      exact AD.get inj k t
theorem AD.put {enc : κ → κ'} (inj : ∀ a b, enc a = enc b → a = b) {r : Rl α} {F : Hp} {k : κ} {v : V} {x : α} (q : r F v x) {kvs : List (κ' × V)} {m : List (κ × α)} (h : AD enc r F kvs m) : AD enc r F (putK kvs (enc k) v) (aPut m k x) := by
  unfold putK aPut
  have e : (kvs.any fun kv => decide (kv.1 = enc k)) = m.any fun p => decide (p.1 = k) := by
    rw [valV_any, aGet_any]
    rcases AD.get inj k h with ⟨h1, h2⟩ | ⟨y, u, h1, h2, _⟩
    · rw [h1, h2]; rfl
    · rw [h1, h2]; rfl
  rw [e]
  split
  · have key : ∀ {kvs : List (κ' × V)} {m : List (κ × α)}, AD enc r F kvs m → AD enc r F (kvs.map fun kv => if kv.1 = enc k then (kv.1, v) else kv) (m.map fun p => if p.1 = k then (p.1, x) else p) := by
      intro kvs m h
      induction h with
      | nil => exact .nil
      | cons h t ih =>
        refine .cons ?_ ih
        rename_i kv y _ _
        dsimp only
        by_cases z : y.1 = k
        · rw [if_pos z, if_pos (by rw [h.1, z])]
          exact ⟨h.1, q⟩
        · rw [if_neg z, if_neg (fun w => z (inj _ _ (h.1.symm.trans w)))]
          exact h
    exact key h
  · have key : ∀ {kvs : List (κ' × V)} {m : List (κ × α)}, AD enc r F kvs m → AD enc r F (kvs ++ [(enc k, v)]) (m ++ [(k, x)]) := by
      intro kvs m h
      induction h with
      | nil => exact .cons ⟨rfl, q⟩ .nil
      | cons h t ih => exact .cons h ih
    exact key h
end
def encN (c : Nat) : Key := Sum.inr (S [c])
theorem encN_inj (a b : Nat) (h : encN a = encN b) : a = b := by
  have := S_inj.mp (Sum.inr.inj h)
  simpa using this
def rNat : Rl Nat := fun _ v x => v = .int (x : Int)
/-- a name: a text of one letter -/
def rC : Rl Nat := fun _ v c => v = .str (S [c])
instance : Mono rNat := ⟨fun _ h => h⟩
instance : Mono rC := ⟨fun _ h => h⟩
def rD {κ α : Type} [DecidableEq κ] (enc : κ → Key) (r : Rl α) : Rl (List (κ × α)) := fun F v m => ∃ a kvs, v = .ref a ∧ F a = some (.dK kvs) ∧ AD enc r F kvs m
instance {κ α : Type} [DecidableEq κ] {enc : κ → Key} {r : Rl α} [Mono r] : Mono (rD enc r) := ⟨fun s h => by
  obtain ⟨a, kvs, e, h1, h2⟩ := h
  exact ⟨a, kvs, e, s _ _ h1, h2.mono s⟩⟩
abbrev rRule : Rl Rule := rP rC rS
theorem Al.nats {F : Hp} : ∀ {vs : List V} {xs : List Nat}, Al rNat F vs xs → vs = (xs.map fun (x : Nat) => (x : Int)).map V.int
  | _, _, .nil => rfl
  | _, _, .cons h t => by rw [Al.nats t, show _ = _ from h]; rfl
theorem Al.cs {F : Hp} : ∀ {vs : List V} {xs : List Nat}, Al rC F vs xs → vs = xs.map fun c => V.str (S [c])
  | _, _, .nil => rfl
  | _, _, .cons h t => by rw [Al.cs t, show _ = _ from h]; rfl
theorem foldl_more {α β : Type} {f : β → α → β} {b : β} {l : List α} {i : Nat} {x : α} (h : l[i]? = some x) : (l.take (i + 1)).foldl f b = f ((l.take i).foldl f b) x := by rw [take_more h, List.foldl_append]; rfl
theorem inV_non : ∀ {vs : List V}, (∀ v ∈ vs, v = .non ∨ ∃ i, v = .int i) → vs.all flatV = true ∧ inV .non vs = vs.any (fun v => decide (v = .non))
  | [], _ => ⟨rfl, rfl⟩
  | v :: r, h => by
    obtain ⟨h1, h2⟩ := inV_non (vs := r) fun x hx => h x (List.mem_cons_of_mem _ hx)
    unfold inV at h2 ⊢
    rw [List.all_cons, List.any_cons, List.any_cons, h1, h2]
    rcases h v List.mem_cons_self with rfl | ⟨i, rfl⟩
    · exact ⟨rfl, rfl⟩
    · exact ⟨rfl, rfl⟩
/-- a rule of a list of rules -/
theorem rule_at {F : Hp} {vs : List V} {rules : List Rule} {i : Nat} {v : V} (al : Al rRule F vs rules) (h : vs[i]? = some v) :
    ∃ r t, rules[i]? = some r ∧ v = .ref t ∧ F t = some (.tup [.str (S [r.1]), .str (S r.2)]) := by
  obtain ⟨r, hr, t, u, w, e1, e2, e3, e4⟩ := al.get h
  rw [show u = _ from e3, show w = _ from e4] at e2
  exact ⟨r, t, hr, e1, e2⟩
theorem Al.opts {F : Hp} : ∀ {vs : List V} {os : List (Option Nat)}, Al (rO rNat) F vs os →
    vs.all flatV = true ∧ inV .non vs = !(os.all fun o => o.isSome) ∧ ((os.all fun o => o.isSome) = true → vs = (os.map fun o => ((o.getD 0 : Nat) : Int)).map V.int)
  | _, _, .nil => ⟨rfl, rfl, fun _ => rfl⟩
  | _, _, .cons (b := o) h t => by
    obtain ⟨h1, h2, h3⟩ := Al.opts t
    unfold inV at h2 ⊢
    rw [List.all_cons, List.any_cons, List.all_cons, h1, h2]
    cases o with
    | none =>
      have e : _ = V.non := h
      subst e
      exact ⟨rfl, rfl, fun z => by simp at z⟩
    | some x =>
      have e : _ = V.int (x : Int) := h
      subst e
      refine ⟨rfl, by simp [eqV], fun z => ?_⟩
      rw [List.map_cons, List.map_cons, ← h3 (by simpa using z)]
      rfl
theorem sum_ints : ∀ l : List Nat, (l.map fun (x : Nat) => (x : Int)).sum = ((l.sum : Nat) : Int)
  | [] => rfl
  | a :: l => by rw [List.map_cons, List.sum_cons, List.sum_cons, sum_ints l]; omega
theorem dec_ii {i j : Int} : decide (V.int i = V.int j) = decide (i = j) := by
  by_cases h : i = j
  · rw [decide_eq_true h, h]; simp
  · rw [decide_eq_false h]; simp [h]
theorem dec_ss {a b : List Nat} : decide (V.str (S a) = V.str (S b)) = decide (a = b) := by
  by_cases h : a = b
  · subst h; simp
  · rw [decide_eq_false h, decide_eq_false]
    intro e
    injection e with e
    exact h (S_inj.mp e)
theorem dec_cc {a b : Nat} : decide (V.str (S [a]) = V.str (S [b])) = decide (a = b) := by
  rw [dec_ss]
  by_cases h : a = b
  · subst h; simp
  · simp [h]
abbrev vc (c : Nat) : V := .str (S [c])
abbrev vn (n : Nat) : V := .int (n : Int)
theorem inV_cs (c : Nat) : ∀ l : List Nat, (l.map vc).all flatV = true ∧ inV (vc c) (l.map vc) = decide (c ∈ l)
  | [] => ⟨rfl, rfl⟩
  | x :: l => by
    obtain ⟨h1, h2⟩ := inV_cs c l
    unfold inV at h2 ⊢
    rw [List.map_cons, List.all_cons, List.any_cons, h1, h2]
    refine ⟨rfl, ?_⟩
    have e : eqV (vc x) (vc c) = decide (x = c) := by
      show (S [x] == S [c]) = _
      by_cases h : x = c
      · subst h; simp
      · rw [decide_eq_false h, beq_eq_false_iff_ne]
        intro e
        exact h (by simpa using S_inj.mp e)
    rw [e]
    by_cases h : x = c
    · subst h; simp
    · have h' : ¬ c = x := fun z => h z.symm
      simp [h, h']
theorem map_get {α : Type} {f : α → V} {l : List α} {i : Nat} {v : V} (h : (l.map f)[i]? = some v) : ∃ x, l[i]? = some x ∧ v = f x := by
  rw [List.getElem?_map] at h
  cases q : l[i]? with
  | none => rw [q] at h; cases h
  | some x => rw [q] at h; exact ⟨x, rfl, (Option.some.inj h).symm⟩
theorem map_get' {α : Type} {f : α → V} {l : List α} {i : Nat} {x : α} (h : l[i]? = some x) : (l.map f)[i]? = some (f x) := by rw [List.getElem?_map, h]; rfl
/-! ### the rules with the written part by its own name -/
section
variable {X : Cx} {K : PySem.W.Frag}
theorem ix_listK (h : X.K = K := by rfl) : IxR X (rIxL K) := by subst h; exact ix_list
theorem ix_tupK (h : X.K = K := by rfl) : IxR X (rIxT K) := by subst h; exact ix_tup
theorem sl_listK (h : X.K = K := by rfl) : SlR X (rSlL K) := by subst h; exact sl_list
theorem sl_tupK (h : X.K = K := by rfl) : SlR X (rSlT K) := by subst h; exact sl_tup
theorem op_ltTK (hu : X.A.units < cLine) (h : X.K = K := by rfl) : OpR X (compareOp .Lt) (rLtT K) := by subst h; exact op_ltT hu
theorem op_catTK (h : X.K = K := by rfl) : OpR X (binaryOp .Add) (rCatT K) := by subst h; exact op_catT
theorem op_inK (h : X.K = K := by rfl) : OpR X (compareOp .In) (rIn K false) := by subst h; exact op_in_seq
theorem op_notInK (h : X.K = K := by rfl) : OpR X (compareOp .NotIn) (rIn K true) := by subst h; exact op_notIn_seq
def rLen (K : PySem.W.Frag) : List V → Hp → VK → Prop := fun xs H Q => ∃ p ys, xs = [.ref p] ∧ (SqL K H p ys ∨ SqT K H p ys) ∧ Q (.int ys.length) H
theorem call_lenK (h : X.K = K := by rfl) : CallR X (.builtin "len") (rLen K) := by subst h; exact call_len_seq
def rListOf (K : PySem.W.Frag) : List V → Hp → VK → Prop := fun xs H Q => ∃ p ys, xs = [.ref p] ∧ (SqL K H p ys ∨ SqT K H p ys) ∧ ∀ l, H l = none → Q (.ref l) (upd H l (.lst ys))
theorem call_listK (h : X.K = K := by rfl) : CallR X (.type "list") (rListOf K) := by subst h; exact call_list_of
theorem cr_sumK (hc : X.calm = true) (h : X.K = K := by rfl) : CallR X (.builtin "sum") (rSum K) := by subst h; exact cr_sum hc
theorem cr_maxK (hc : X.calm = true) (h : X.K = K := by rfl) : CallR X (.builtin "max") (rMax K) := by subst h; exact cr_max hc
theorem cr_minK (hc : X.calm = true) (h : X.K = K := by rfl) : CallR X (.builtin "min") (rMin K) := by subst h; exact cr_min hc
theorem cr_allK (hc : X.calm = true) (h : X.K = K := by rfl) : CallR X (.builtin "all") (rAll K) := by subst h; exact cr_all hc
theorem cr_anyK (hc : X.calm = true) (h : X.K = K := by rfl) : CallR X (.builtin "any") (rAny K) := by subst h; exact cr_any hc
theorem cr_sortedSK (h : X.K = K := by rfl) : CallR X (.builtin "sorted") (rSortedS K) := by subst h; exact cr_sortedS
theorem op_eqDK (hu : X.A.units + 64 < cLine) (h : X.K = K := by rfl) : OpR X (compareOp .Eq) (rEqD K) := by subst h; exact op_eqD hu
theorem op_neDK (hu : X.A.units + 64 < cLine) (h : X.K = K := by rfl) : OpR X (compareOp .NotEq) (rNeD K) := by subst h; exact op_neD hu
theorem pi_listK {tg l : Expr} {tl : TE} (hl : PE X l tl) (h : X.K = K := by rfl) : PI X tg l (iList K tl) := by subst h; exact pi_list hl
theorem pi_tupK {tg l : Expr} {tl : TE} (hl : PE X l tl) (h : X.K = K := by rfl) : PI X tg l (iTup K tl) := by subst h; exact pi_tup hl
theorem pi_enumK {e : Expr} {ta : TA} {p pos tpos : Pos} {elts : List Expr} {kk : Nat} (hg : Gl X "enumerate") (hm : X.mg "enumerate" = none) (ha : PA X [e] ta) (hs : starEach [e] X.env = [(false, eval e X.env)] := by rfl) (h : X.K = K := by rfl) :
    PI X (.Tuple elts kk tpos) (.Call (.Name "enumerate" p) [e] [] pos) (iEnum K ta) := by subst h; exact pi_enum hg hm ha hs
theorem pg_tupK {es : List Expr} {k : Nat} {t : TGs} {n : Nat} {pos : Pos} (hc : X.calm = true) (ht : PGs X es t) (hn : (assignEach es X.env).length = n := by rfl) (hst : (assignEach es X.env).findIdx? (·.1) = none := by rfl) (h : X.K = K := by rfl) :
    PG X (.Tuple es k pos) (gTup K n t) := by subst h; exact pg_tup hc ht hn hst
theorem pe_fldK {e : Expr} {ta : TE} {f : Str} {pos : Pos} (he : PE X e ta) (hb : attributeBase e f X.env (eval e X.env) = eval e X.env := by rfl) (h : X.K = K := by rfl) : PE X (.Attribute e f pos) (tFld K ta f) := by subst h; exact pe_fld he hb
theorem pe_conK {e : Expr} {ta : TE} {f : Str} {pos : Pos} (he : PE X e ta) (hb : attributeBase e f X.env (eval e X.env) = eval e X.env := by rfl) (h : X.K = K := by rfl) : PE X (.Attribute e f pos) (tCon K ta f) := by subst h; exact pe_con he hb
theorem ps_fldK {o value : Expr} {f : Str} {pos pos' : Pos} {ta tv : TE} (ha : PE X o ta) (hv : PE X value tv) (hs : swapsWith value (some (.Attribute o f pos')) pos.line X.env = pure false := by rfl) (h : X.K = K := by rfl) :
    PS X (.Assign [.Attribute o f pos'] value pos) (sFld K ta tv f) := by subst h; exact ps_fld ha hv hs
theorem pe_revLK {e : Expr} {te : TE} {k : Nat} {p1 p2 p3 pos : Pos} (he : PE X e te) (h : X.K = K := by rfl) : PE X (.Subscript e (.Slice none none (some (.UnaryOp .USub (.Constant (.int 1) k p1) p2)) p3) pos) (tRevL K te) := by subst h; exact pe_revL he
theorem pe_bmK {o e : Expr} {es : List Expr} {to : TE} {t : TA} {name : Str} {apos cpos : Pos} {T id : String} {r : V → List V → Hp → VK → Prop}
    (pa : PlainAttrs T) (slot : Slot T name id) (hty : typeOf (.builtin id) = pure (.type "method_descriptor")) (hm : MtR X id r) (ho : PE X o to) (ha : PA X (e :: es) t)
    (hbase : attributeBase o name X.env (eval o X.env) = eval o X.env := by rfl) (hline : (apos.endLine == cpos.line) = true := by rfl) (hs : starEach (e :: es) X.env = (false, eval e X.env) :: starEach es X.env := by rfl) (hplain : (backTo cpos (starEach es X.env)).any (·.1) = false := by rfl)
    (hfew : ((backTo cpos (starEach (e :: es) X.env)).all (fun x => !x.1) && (backToKw cpos (keywordEach [] X.env)).all (fun x => x.1.isSome)
      && decide ((e :: es).length + ([] : List Keyword).length + (if ([] : List Keyword).isEmpty then 0 else 1) < 30)) = true := by rfl) (h : X.K = K := by rfl) :
    PE X (.Call (.Attribute o name apos) (e :: es) [] cpos) (tBM K T r to t) := by subst h; exact pe_bm pa slot hty hm ho ha hbase hfew hline hs hplain
def rJoin (K : PySem.W.Frag) : V → List V → Hp → VK → Prop := fun x xs H Q => ∃ a p, ∃ ys : List Str, x = .str a ∧ xs = [.ref p] ∧ (SqL K H p (ys.map V.str) ∨ SqT K H p (ys.map V.str)) ∧
      (ys.map (·.length)).sum + ys.length * a.length ≤ 16777216 ∧ Q (.str (Txt.join a ys)) H
theorem pe_joinK {o e : Expr} {to te : TE} {apos pos : Pos} (ho : PE X o to) (he : PE X e te) (hs : starEach [e] X.env = [(false, eval e X.env)] := by rfl) (hbase : attributeBase o "join" X.env (eval o X.env) = eval o X.env := by rfl) (hline : (apos.endLine == pos.line) = true := by rfl) (h : X.K = K := by rfl) :
    PE X (.Call (.Attribute o "join" apos) [e] [] pos) (tM1 (rJoin K) to te) := by subst h; exact pe_join ho he hs hbase hline
theorem pe_bm0K {o : Expr} {to : TE} {name : Str} {apos cpos : Pos} {T id : String} {r : V → List V → Hp → VK → Prop}
    (pa : PlainAttrs T) (slot : Slot T name id) (hty : typeOf (.builtin id) = pure (.type "method_descriptor")) (hm : MtR X id r) (ho : PE X o to)
    (hbase : attributeBase o name X.env (eval o X.env) = eval o X.env := by rfl) (hline : (apos.endLine == cpos.line) = true := by rfl) (h : X.K = K := by rfl) : PE X (.Call (.Attribute o name apos) [] [] cpos) (tBM0 K T r to) := by subst h; exact pe_bm0 pa slot hty hm ho hbase hline
end
end SF
namespace SF
abbrev Best := List (Nat × Tri Nat (List Nat) Nat)
def bS (best : Best) (c : Nat) : Nat := ((aGet best c).map (·.a)).getD 0
def bW (best : Best) (c : Nat) : List Nat := ((aGet best c).map (·.b)).getD []
def ldSteps (best : Best) (b : List Nat) : Nat := 1 + ((namesIn b).map (bS best)).sum
def ldPart (best : Best) (c : Nat) : List Nat := if nam c = true then bW best c else [c]
def ldWord (best : Best) (b : List Nat) : List Nat := (b.map (ldPart best)).flatten
def ldDue (lens : List (Nat × Nat)) (best : Best) (r : Rule) : Bool := decide (total lens r.2 = (aGet lens r.1).getD 0) && allIn best r.2
/-- (steps, word) < (steps, word) -/
def swL (i : Nat) (a : List Nat) (j : Nat) (b : List Nat) : Bool := if i = j then decide (a < b) else decide (i < j)
def ldBetter (best : Best) (r : Rule) : Bool := match aGet best r.1 with
  | none => true
  | some t => swL (ldSteps best r.2) (ldWord best r.2) t.a t.b
def ldStep (rules : List Rule) (lens : List (Nat × Nat)) (st : Best × Bool) (n : Nat) : Best × Bool := match rules[n]? with
  | none => st
  | some r => if ldDue lens st.1 r = true then (if ldBetter st.1 r = true then (aPut st.1 r.1 ⟨ldSteps st.1 r.2, ldWord st.1 r.2, n⟩, true) else st) else st
section
variable {rules : List Rule} {lens : List (Nat × Nat)} {st : Best × Bool} {n : Nat} {r : Rule}
theorem ldStep_no (hr : rules[n]? = some r) (h : ldDue lens st.1 r = false) : ldStep rules lens st n = st := by
  unfold ldStep
  rw [hr]
  dsimp only
  rw [h, if_neg Bool.false_ne_true]
theorem ldStep_no2 (hr : rules[n]? = some r) (h : ldBetter st.1 r = false) : ldStep rules lens st n = st := by
  unfold ldStep
  rw [hr]
  dsimp only
  rw [h, if_neg Bool.false_ne_true]
  split <;> rfl
theorem ldStep_yes (hr : rules[n]? = some r) (h : ldDue lens st.1 r = true) (h2 : ldBetter st.1 r = true) : ldStep rules lens st n = (aPut st.1 r.1 ⟨ldSteps st.1 r.2, ldWord st.1 r.2, n⟩, true) := by
  unfold ldStep
  rw [hr]
  dsimp only
  rw [h, if_pos rfl, h2, if_pos rfl]
end
def ldRound (rules : List Rule) (lens : List (Nat × Nat)) (numbers : List Nat) (m : Best) : Best × Bool := numbers.foldl (ldStep rules lens) (m, false)
def geo : Nat → Nat
  | 0 => 0
  | k + 1 => 1 + 4 * geo k
theorem geo_mono : ∀ {a b : Nat}, a ≤ b → geo a ≤ geo b
  | a, 0, h => by have : a = 0 := by omega
                  subst this; exact Nat.le_refl _
  | a, b + 1, h => by
    rcases Nat.lt_or_ge a (b + 1) with h1 | h1
    · have := geo_mono (a := a) (b := b) (by omega)
      show _ ≤ 1 + 4 * geo b
      omega
    · have : a = b + 1 := by omega
      subst this; exact Nat.le_refl _
/-- the number that a word spells, to the base 128 -/
def val : List Nat → Nat
  | [] => 0
  | c :: l => c * 128 ^ l.length + val l
theorem val_lt : ∀ {l : List Nat}, (∀ c ∈ l, c < 128) → val l < 128 ^ l.length
  | [], _ => by simp [val]
  | c :: l, h => by
    have ih := val_lt (l := l) fun x hx => h x (List.mem_cons_of_mem _ hx)
    have hc := h c List.mem_cons_self
    show c * 128 ^ l.length + val l < 128 ^ (l.length + 1)
    have : (c + 1) * 128 ^ l.length ≤ 128 * 128 ^ l.length := Nat.mul_le_mul_right _ (by omega)
    rw [Nat.pow_succ, Nat.mul_comm (128 ^ l.length)]
    rw [Nat.add_mul] at this
    omega
theorem val_lex : ∀ {a b : List Nat}, a.length = b.length → (∀ c ∈ a, c < 128) → a < b → val a < val b
  | [], [], _, _, h => absurd h (by simp)
  | [], _ :: _, h, _, _ => by simp at h
  | _ :: _, [], h, _, _ => by simp at h
  | x :: a, y :: b, hl, ha, h => by
    have hl' : a.length = b.length := by simpa using hl
    show x * 128 ^ a.length + val a < y * 128 ^ b.length + val b
    rw [← hl']
    rcases List.cons_lt_cons_iff.mp h with h1 | ⟨h1, h2⟩
    · have q := val_lt (l := a) fun c hc => ha c (List.mem_cons_of_mem _ hc)
      have : (x + 1) * 128 ^ a.length ≤ y * 128 ^ a.length := Nat.mul_le_mul_right _ h1
      rw [Nat.add_mul] at this
      omega
    · subst h1
      have ih := val_lex hl' (fun c hc => ha c (List.mem_cons_of_mem _ hc)) h2
      omega
def UN : Nat := 128 ^ 25
def BIGD : Nat := (geo 27 + 1) * UN
def wgt (best : Best) (c : Nat) : Nat := match aGet best c with
  | none => BIGD
  | some t => t.a * UN + val t.b
def muD (best : Best) : Nat := ((List.range 26).map fun i => wgt best (65 + i)).sum
def ldFuel : Nat := muD [] + 1
def leastDerivations (rules : List Rule) (numbers : List Nat) (lens : List (Nat × Nat)) : Best := rounds (ldRound rules lens numbers) ldFuel []
structure LDok (lens : List (Nat × Nat)) (m : Best) : Prop where
  nd : (m.map (·.1)).Nodup
  nm : ∀ c ∈ m.map (·.1), nam c = true
  st : ∀ c t, aGet m c = some t → t.a ≤ geo m.length
  wl : ∀ c t, aGet m c = some t → t.b.length = (aGet lens c).getD 0 ∧ t.b.length ≤ 24
  wc : ∀ c t, aGet m c = some t → ∀ x ∈ t.b, sgn x = true
  hl : ∀ c ∈ m.map (·.1), (aGet lens c).isSome = true
theorem LDok.nil (lens : List (Nat × Nat)) : LDok lens [] := ⟨by simp, by simp, fun c x h => (by cases h), fun c x h => (by cases h), fun c x h => (by cases h), fun c hc => (by cases hc)⟩
section
variable {lens : List (Nat × Nat)} {m : Best} {r : Rule}
theorem LDok.few (h : LDok lens m) : m.length ≤ 26 := by
  have := nam_few h.nd h.nm
  rwa [List.length_map] at this
theorem sgn_lt {c : Nat} (h : sgn c = true) : c < 128 := by
  have : ∀ x ∈ SIGNSl, x < 128 := by decide
  exact this c (by simpa [sgn] using h)
theorem bW_len (h : LDok lens m) {c : Nat} (hc : (aGet m c).isSome = true) : (bW m c).length = (aGet lens c).getD 0 := by
  cases q : aGet m c with
  | none => rw [q] at hc; cases hc
  | some t => unfold bW; rw [q]; exact (h.wl c t q).1
theorem allIn_cons {α : Type} {m : List (Nat × α)} {c : Nat} {b : List Nat} : allIn m (c :: b) = true ↔ (nam c = true → (aGet m c).isSome = true) ∧ allIn m b = true := by
  unfold allIn namesIn
  by_cases h : nam c = true
  · rw [List.filter_cons, if_pos h, List.all_cons, Bool.and_eq_true]
    exact ⟨fun ⟨a, b⟩ => ⟨fun _ => a, b⟩, fun ⟨a, b⟩ => ⟨a h, b⟩⟩
  · rw [List.filter_cons, if_neg h]
    exact ⟨fun a => ⟨fun z => absurd z h, a⟩, fun a => a.2⟩
theorem total_cons {lens : List (Nat × Nat)} {c : Nat} {b : List Nat} : total lens (c :: b) = (if nam c = true then (aGet lens c).getD 0 else 1) + total lens b := by
  unfold total
  have h1 := namesIn_le b
  unfold namesIn at h1 ⊢
  by_cases h : nam c = true
  · rw [List.filter_cons, if_pos h, if_pos h, List.map_cons, List.sum_cons, List.length_cons, List.length_cons]
    omega
  · rw [List.filter_cons, if_neg h, if_neg h, List.length_cons]
    omega
theorem ldWord_len (h : LDok lens m) : ∀ {b : List Nat}, allIn m b = true → (ldWord m b).length = total lens b
  | [], _ => rfl
  | c :: b, hb => by
    obtain ⟨h1, h2⟩ := allIn_cons.mp hb
    have ih := ldWord_len h h2
    show (ldPart m c ++ ldWord m b).length = _
    rw [List.length_append, ih, total_cons]
    unfold ldPart
    by_cases hn : nam c = true
    · rw [if_pos hn, if_pos hn, bW_len h (h1 hn)]
    · rw [if_neg hn, if_neg hn]; rfl
theorem ldWord_sgn (h : LDok lens m) : ∀ {b : List Nat}, (∀ c ∈ b, (sgn c || nam c) = true) → ∀ x ∈ ldWord m b, sgn x = true
  | [], _, x, hx => by cases hx
  | c :: b, hb, x, hx => by
    have hx' : x ∈ ldPart m c ++ ldWord m b := hx
    rcases List.mem_append.mp hx' with z | z
    · unfold ldPart at z
      by_cases hn : nam c = true
      · rw [if_pos hn] at z
        unfold bW at z
        cases q : aGet m c with
        | none => rw [q] at z; cases z
        | some t => rw [q] at z; exact h.wc c t q x z
      · rw [if_neg hn] at z
        simp at z
        subst z
        have := hb x List.mem_cons_self
        rw [Bool.or_eq_true] at this
        exact this.resolve_right hn
    · exact ldWord_sgn h (fun y hy => hb y (List.mem_cons_of_mem _ hy)) x z
theorem ldSteps_le (h : LDok lens m) {b : List Nat} (hb : b.length ≤ 4) : ldSteps m b ≤ geo (m.length + 1) := by
  unfold ldSteps
  have h1 := namesIn_le b
  have h2 := sum_le_mul (bS m) (geo m.length) (namesIn b) fun c _ => by
    unfold bS
    cases q : aGet m c with
    | none => simp
    | some x => exact h.st c x q
  have h3 : (namesIn b).length * geo m.length ≤ 4 * geo m.length := Nat.mul_le_mul_right _ (by omega)
  show _ ≤ 1 + 4 * geo m.length
  omega
/-- a rule that may be used: its word's length is known and small -/
structure RuOk (lens : List (Nat × Nat)) (r : Rule) : Prop where
  nm : nam r.1 = true
  few : r.2.length ≤ 4
  ok : ∀ c ∈ r.2, (sgn c || nam c) = true
  al : allIn lens r.2 = true
  here : (aGet lens r.1).isSome = true
  small : (aGet lens r.1).getD 0 ≤ 24
theorem swL_le {i j : Nat} {a b : List Nat} (h : swL i a j b = true) : i ≤ j := by
  unfold swL at h
  split at h
  · omega
  · have := of_decide_eq_true h; omega
theorem LDok.put (h : LDok lens m) (hr : RuOk lens r) (hd : ldDue lens m r = true) (hb : ldBetter m r = true) (n : Nat) : LDok lens (aPut m r.1 ⟨ldSteps m r.2, ldWord m r.2, n⟩) := by
  unfold ldDue at hd
  rw [Bool.and_eq_true, decide_eq_true_eq] at hd
  have hwl := ldWord_len h hd.2
  refine ⟨aPut_nodup h.nd, fun c hc => ?_, fun c x hx => ?_, fun c x hx => ?_, fun c x hx => ?_, fun c hc => ?_⟩
  · rw [aPut_keys] at hc
    split at hc
    · exact h.nm c hc
    · rcases List.mem_append.mp hc with hc | hc
      · exact h.nm c hc
      · simp at hc; subst hc; exact hr.nm
  · rw [aGet_put] at hx
    rw [aPut_length]
    by_cases e : c = r.1
    · subst e
      rw [if_pos rfl] at hx
      cases hx
      cases q : aGet m r.1 with
      | none => simp only [Option.isSome_none, Bool.false_eq_true, if_false]; exact ldSteps_le h hr.few
      | some y =>
        unfold ldBetter at hb
        rw [q] at hb
        have h1 := h.st _ _ q
        have h2 : ldSteps m r.2 ≤ y.a := swL_le hb
        simp only [Option.isSome_some, if_true]
        show ldSteps m r.2 ≤ _
        omega
    · rw [if_neg e] at hx
      have h1 := h.st _ _ hx
      split
      · exact h1
      · have := geo_mono (show m.length ≤ m.length + 1 by omega)
        omega
  · rw [aGet_put] at hx
    by_cases e : c = r.1
    · subst e
      rw [if_pos rfl] at hx
      cases hx
      show (ldWord m r.2).length = _ ∧ (ldWord m r.2).length ≤ 24
      rw [hwl, hd.1]
      exact ⟨rfl, hr.small⟩
    · rw [if_neg e] at hx
      exact h.wl c x hx
  · rw [aGet_put] at hx
    by_cases e : c = r.1
    · subst e
      rw [if_pos rfl] at hx
      cases hx
      exact ldWord_sgn h hr.ok
    · rw [if_neg e] at hx
      exact h.wc c x hx
  · rw [aPut_keys] at hc
    split at hc
    · exact h.hl c hc
    · rcases List.mem_append.mp hc with hc | hc
      · exact h.hl c hc
      · simp at hc; subst hc; exact hr.here
theorem val_small {l : List Nat} (h : ∀ c ∈ l, sgn c = true) (hl : l.length ≤ 24) : val l < UN := by
  have h1 := val_lt (l := l) fun c hc => sgn_lt (h c hc)
  have h2 := Nat.pow_le_pow_right (show 0 < 128 by decide) (show l.length ≤ 25 by omega)
  unfold UN
  omega
theorem muD_put (h : LDok lens m) (hr : RuOk lens r) (hd : ldDue lens m r = true) (hb : ldBetter m r = true) (n : Nat) : muD (aPut m r.1 ⟨ldSteps m r.2, ldWord m r.2, n⟩) < muD m := by
  have hrn := nam_iff.mp hr.nm
  have key := sum_change (fun i => wgt m (65 + i)) (fun i => wgt (aPut m r.1 ⟨ldSteps m r.2, ldWord m r.2, n⟩) (65 + i)) (r.1 - 65) (fun i hi => by
    show wgt _ (65 + i) = wgt _ (65 + i)
    unfold wgt
    rw [aGet_put, if_neg (by omega)]) 26
  rw [if_pos (by omega), if_pos (by omega)] at key
  have e : 65 + (r.1 - 65) = r.1 := by omega
  simp only [e] at key
  have hd' := hd
  unfold ldDue at hd'
  rw [Bool.and_eq_true, decide_eq_true_eq] at hd'
  have hwl := ldWord_len h hd'.2
  have hsg := ldWord_sgn h hr.ok
  have hl24 : (ldWord m r.2).length ≤ 24 := by rw [hwl, hd'.1]; exact hr.small
  have hlt : wgt (aPut m r.1 ⟨ldSteps m r.2, ldWord m r.2, n⟩) r.1 < wgt m r.1 := by
    unfold wgt
    rw [aGet_put, if_pos rfl]
    have hv := val_small hsg hl24
    cases q : aGet m r.1 with
    | none =>
      have h1 := ldSteps_le h hr.few
      have h2 := geo_mono (show m.length + 1 ≤ 27 by have := h.few; omega)
      have h3 : (ldSteps m r.2 + 1) * UN ≤ (geo 27 + 1) * UN := Nat.mul_le_mul_right _ (by omega)
      show ldSteps m r.2 * UN + val (ldWord m r.2) < (geo 27 + 1) * UN
      rw [Nat.add_mul] at h3
      omega
    | some t =>
      show ldSteps m r.2 * UN + val (ldWord m r.2) < t.a * UN + val t.b
      unfold ldBetter at hb
      rw [q] at hb
      have hb' : swL (ldSteps m r.2) (ldWord m r.2) t.a t.b = true := hb
      unfold swL at hb'
      split at hb'
      · rename_i e1
        have hle : (ldWord m r.2).length = t.b.length := by rw [hwl, hd'.1, (h.wl _ _ q).1]
        have := val_lex hle (fun c hc => sgn_lt (hsg c hc)) (of_decide_eq_true hb')
        rw [e1]
        omega
      · have h1 := of_decide_eq_true hb'
        have h3 : (ldSteps m r.2 + 1) * UN ≤ t.a * UN := Nat.mul_le_mul_right _ h1
        rw [Nat.add_mul] at h3
        omega
  unfold muD
  omega
end
section
variable {rules : List Rule} {lens : List (Nat × Nat)}
/-- what each turn of a round keeps -/
theorem ldFold {numbers : List Nat} : ∀ (st : Best × Bool), (∀ n ∈ numbers, ∃ r, rules[n]? = some r ∧ RuOk lens r) → LDok lens st.1 →
    LDok lens (numbers.foldl (ldStep rules lens) st).1 ∧ muD (numbers.foldl (ldStep rules lens) st).1 ≤ muD st.1 ∧ (st.2 = false → (numbers.foldl (ldStep rules lens) st).2 = true → muD (numbers.foldl (ldStep rules lens) st).1 < muD st.1) ∧
    ((numbers.foldl (ldStep rules lens) st).2 = false → (numbers.foldl (ldStep rules lens) st) = st) := by
  induction numbers with
  | nil =>
    intro st _ h
    refine ⟨h, Nat.le_refl _, fun h1 h2 => ?_, fun _ => rfl⟩
    rw [List.foldl_nil, h1] at h2
    cases h2
  | cons n rest ih =>
    intro st hr h
    obtain ⟨r, hn, hro⟩ := hr n List.mem_cons_self
    have step : LDok lens (ldStep rules lens st n).1 ∧ (ldStep rules lens st n = st ∨ (muD (ldStep rules lens st n).1 < muD st.1 ∧ (ldStep rules lens st n).2 = true)) := by
      unfold ldStep
      rw [hn]
      dsimp only
      split
      · rename_i hd
        split
        · rename_i hb
          exact ⟨h.put hro hd hb n, .inr ⟨muD_put h hro hd hb n, rfl⟩⟩
        · exact ⟨h, .inl rfl⟩
      · exact ⟨h, .inl rfl⟩
    obtain ⟨h1, h2⟩ := step
    obtain ⟨a1, a2, a3, a4⟩ := ih (ldStep rules lens st n) (fun x hx => hr x (List.mem_cons_of_mem _ hx)) h1
    rw [List.foldl_cons]
    rcases h2 with e | ⟨e1, e2⟩
    · rw [e] at a1 a2 a3 a4 ⊢
      exact ⟨a1, a2, a3, a4⟩
    · refine ⟨a1, by omega, fun _ _ => by omega, fun q => ?_⟩
      have := a4 q
      rw [this, e2] at q
      cases q
end
end SF
namespace SF
open PySem PySem.Spec PyProof.Rows L2
/-! ### x < y of data of one shape; of pairs of a number and a text -/
section
variable {X : Cx}
def rLtD (K : PySem.W.Frag) : R2 := fun x y H Q => ∃ d e, Dp K H x d ∧ Dp K H y e ∧ PySem.W.alike d e = true ∧ d ≠ .none ∧ min d.depth e.depth ≤ 64 ∧ Q (.bl (PySem.W.dataLt d e)) H
theorem op_ltD (hu : X.A.units + 64 < cLine) : OpR X (compareOp .Lt) (rLtD X.K) := by
  intro pins s σ H x y v u Q I rx ry h
  obtain ⟨d, e, hd, he, ha, hn, hz, q⟩ := h
  obtain ⟨as, r1⟩ := Dp.reads I d x v hd rx
  obtain ⟨bs, r2⟩ := Dp.reads I e y u he ry
  exact PySem.W.rcLt_alike d e X.A s v u as bs r1 r2 ha hn (by omega) X.prog X.w _ _ ⟨.bl _, H, I, rfl, q⟩
def swLt (i : Int) (a : List Nat) (j : Int) (b : List Nat) : Bool := if i = j then decide (a < b) else decide (i < j)
theorem dataLt_sw (i j : Int) (a b : List Nat) : PySem.W.dataLt (.tuple [.int i, .str (S a)]) (.tuple [.int j, .str (S b)]) = swLt i a j b := by
  rw [PySem.W.dataLt_tuple]
  unfold swLt
  by_cases h : i = j
  · rw [if_pos h, PySem.W.dataLt_all_yes rfl (by rw [PyData.eqv, beq_iff_eq]; exact h)]
    by_cases h2 : a = b
    · rw [PySem.W.dataLt_all_yes rfl (by rw [PyData.eqv, beq_iff_eq, h2]), h2, lex_irrefl]
      simp
    · rw [PySem.W.dataLt_all_no rfl (by rw [PyData.eqv, beq_eq_false_iff_ne]; exact fun e => h2 (S_inj.mp e)), PySem.W.dataLt_str, S_cps, S_cps]
  · rw [if_neg h, PySem.W.dataLt_all_no rfl (by rw [PyData.eqv, beq_eq_false_iff_ne]; exact h), PySem.W.dataLt_int]
def rLtSW (K : PySem.W.Frag) : R2 := fun x y H Q => ∃ p q i j a b, x = .ref p ∧ y = .ref q ∧ SqT K H p [.int i, .str (S a)] ∧ SqT K H q [.int j, .str (S b)] ∧ Q (.bl (swLt i a j b)) H
theorem op_ltSW (hu : X.A.units + 64 < cLine) : OpR X (compareOp .Lt) (rLtSW X.K) := by
  intro pins s σ H x y v u Q I rx ry h
  obtain ⟨p, q, i, j, a, b, rfl, rfl, hp, hq, h⟩ := h
  refine op_ltD hu pins s σ H _ _ v u Q I rx ry ⟨_, _, .tup hp (.cons (.int i) (.cons (.str _) .nil)), .tup hq (.cons (.int j) (.cons (.str _) .nil)), rfl, (fun z => nomatch z), ?_, ?_⟩
  · simp [PyData.depth, PyData.depthAll]
  · rw [dataLt_sw]; exact h
theorem op_ltSWK {K : PySem.W.Frag} (hu : X.A.units + 64 < cLine) (h : X.K = K := by rfl) : OpR X (compareOp .Lt) (rLtSW K) := by subst h; exact op_ltSW hu
end
end SF
namespace SF
open PySem PySem.Spec PyProof.Rows L2
theorem DGet.some {H : Hp} {a : Addr} {kvs : List (Key × V)} {k : Key} {v : V} (e : H a = some (.dK kvs)) (h : valV kvs k = some v) : DGet H a (kV k) (some v) := h ▸ DGet.k e
theorem at_ofG {α : Type} {xs : List α} {z : Int} {j : Nat} {v : α} (e : z = (j : Int)) (h : xs[j]? = some v) : atI xs z = some v := by
  have hlt := (List.getElem?_eq_some_iff.mp h).1
  subst e
  unfold atI ixN
  rw [if_pos (by omega), if_pos (by omega), Int.toNat_natCast]
  exact h
/-! ### joined texts -/
def joinL (sep : List Nat) : List (List Nat) → List Nat
  | [] => []
  | [x] => x
  | x :: y :: r => x ++ sep ++ joinL sep (y :: r)
theorem join_S' (sep : List Nat) : ∀ ls : List (List Nat), Str.join (S sep) (ls.map S) = S (joinL sep ls)
  | [] => rfl
  | [x] => rfl
  | x :: y :: r => by
    have ih := join_S' sep (y :: r)
    show S x ++ S sep ++ Str.join (S sep) ((y :: r).map S) = S (x ++ sep ++ joinL sep (y :: r))
    rw [ih, S_app, S_app]
theorem join_S (sep : List Nat) (ls : List (List Nat)) : Txt.join (S sep) (ls.map S) = S (joinL sep ls) := (StrLaws.glued_eq_join _ _).trans (join_S' sep ls)
theorem joinL_nil : ∀ ls : List (List Nat), joinL [] ls = ls.flatten
  | [] => rfl
  | [x] => by simp [joinL]
  | x :: y :: r => by
    show x ++ [] ++ joinL [] (y :: r) = _
    rw [joinL_nil (y :: r)]
    simp
theorem S_empty : (Str.ofString "") = S [] := by decide
theorem map_len (ls : List (List Nat)) : ((ls.map S).map (·.length)).sum = (ls.map List.length).sum := by
  rw [List.map_map, show ((fun x : Str => x.length) ∘ S) = List.length from funext fun l => S_len l]
/-! ### comprehensions over a list of data -/
section
variable {α β : Type} {J : It} {n : Nat} {G : Hp → Prop} {Y : Nat → Hp → V → Hp → Prop}
theorem lcfil (w : Walk J n G Y) {r : Rl β} [Mono r] {g : TG} {tt : TT} {te : TE} {vs : List Nat} {σ : L2.St} {F H1 : Hp} {D : Addr} {Qd : Hp → Prop} (xs : List α) (p : α → Bool) (f : α → β) (hD : H1 D = none) (sF : Same F H1) (hn : n = xs.length) (hz : xs.length < sizeLine)
    (hG : ∀ F4 H4, Ext F H1 F4 H4 → G H4)
    (turn : ∀ i x v F4 H4 H5, xs[i]? = some x → Ext F H1 F4 H4 → Y i H4 v H5 → ∀ (Qy : V → Hp → Prop) (Qn : Hp → Prop), (p x = true → ∀ y F7 H7, Ext F4 H4 F7 H7 → r F7 y (f x) → Qy y H7) → (p x = false → ∀ F7 H7, Ext F4 H4 F7 H7 → Qn H7) →
      g v (wipe σ vs) H5 fun σ2 H6 => wipe σ2 vs = wipe σ vs ∧ tt σ2 H6 fun b H7 => if b = true then te σ2 H7 Qy else Qn H7)
    (hd : ∀ ws F' H', Ext F H1 F' H' → F' D = some (.lst ws) → Al r F' ws ((xs.filter p).map f) → Qd H') :
    ∃ W : Nat → Nat → Hp → Prop, (∃ m, W 0 m (upd H1 D (.lst []))) ∧ ∀ i m H, W i m H →
      (J.stop i H ∧ Qd H) ∨ (J.go i H ∧ ∃ Nx : Hp → Prop, (∀ H', Nx H' → ∃ m', m' < m ∧ W (i + 1) m' H') ∧ ∀ x H', J.yld i H x H' → g x (wipe σ vs) H' fun σ2 H2 => wipe σ2 vs = wipe σ vs ∧ tt σ2 H2 fun b H3 =>
        if b = true then te σ2 H3 fun y H4 => ∃ acc, H4 D = some (.lst acc) ∧ acc.length < sizeLine ∧ Nx (upd H4 D (.lst (acc ++ [y]))) else Nx H3) := by
  refine lc_it w (LcI r F H1 D fun i => ((xs.take i).filter p).map f) (LcI.start sF hD rfl) (fun i H _ h => ?_) ?_ ?_
  · obtain ⟨F', ws, e, _⟩ := h
    exact hG F' H e
  · rintro i v H4 H5 hi ⟨F4, ws, e4, f4, hD4, al4⟩ hy
    have hi2 : i < xs.length := by omega
    have hx : xs[i]? = some xs[i] := List.getElem?_eq_getElem hi2
    have hzz : (((xs.take i).filter p).map f).length < sizeLine := by
      have h1 := List.length_filter_le p (xs.take i)
      rw [List.length_take] at h1
      rw [List.length_map]; omega
    refine turn i xs[i] v F4 H4 H5 hx e4 hy _ _ (fun hp y F7 H7 e7 q => ?_) (fun hp F7 H7 e7 => ?_)
    · exact LcI.yes (f xs[i]) hD e4 f4 hD4 al4 e7 q (by show List.map f (List.filter p _) = _; rw [filter_yes hx hp, List.map_append]; rfl) hzz
    · exact LcI.no e4 f4 hD4 al4 e7 (by show List.map f (List.filter p _) = _; rw [filter_no hx hp])
  · intro H7 h7
    obtain ⟨F7, vs7, e7, fD7, al7⟩ := h7.frz hD
    rw [hn, List.take_length] at al7
    exact hd vs7 F7 H7 e7 fD7 al7
theorem lcmap (w : Walk J n G Y) {r : Rl β} [Mono r] {g : TG} {te : TE} {vs : List Nat} {σ : L2.St} {F H1 : Hp} {D : Addr} {Qd : Hp → Prop} (xs : List α) (f : α → β) (hD : H1 D = none) (sF : Same F H1) (hn : n = xs.length) (hz : xs.length < sizeLine)
    (hG : ∀ F4 H4, Ext F H1 F4 H4 → G H4)
    (turn : ∀ i x v F4 H4 H5, xs[i]? = some x → Ext F H1 F4 H4 → Y i H4 v H5 → ∀ (Qy : V → Hp → Prop), (∀ y F7 H7, Ext F4 H4 F7 H7 → r F7 y (f x) → Qy y H7) →
      g v (wipe σ vs) H5 fun σ2 H6 => wipe σ2 vs = wipe σ vs ∧ te σ2 H6 Qy)
    (hd : ∀ ws F' H', Ext F H1 F' H' → F' D = some (.lst ws) → Al r F' ws (xs.map f) → Qd H') :
    ∃ W : Nat → Nat → Hp → Prop, (∃ m, W 0 m (upd H1 D (.lst []))) ∧ ∀ i m H, W i m H →
      (J.stop i H ∧ Qd H) ∨ (J.go i H ∧ ∃ Nx : Hp → Prop, (∀ H', Nx H' → ∃ m', m' < m ∧ W (i + 1) m' H') ∧ ∀ x H', J.yld i H x H' → g x (wipe σ vs) H' fun σ2 H2 => wipe σ2 vs = wipe σ vs ∧ tYes σ2 H2 fun b H3 =>
        if b = true then te σ2 H3 fun y H4 => ∃ acc, H4 D = some (.lst acc) ∧ acc.length < sizeLine ∧ Nx (upd H4 D (.lst (acc ++ [y]))) else Nx H3) := by
  refine lc_it w (LcI r F H1 D fun i => (xs.take i).map f) (LcI.start sF hD rfl) (fun i H _ h => ?_) ?_ ?_
  · obtain ⟨F', ws, e, _⟩ := h
    exact hG F' H e
  · rintro i v H4 H5 hi ⟨F4, ws, e4, f4, hD4, al4⟩ hy
    have hi2 : i < xs.length := by omega
    have hx : xs[i]? = some xs[i] := List.getElem?_eq_getElem hi2
    have hzz : ((xs.take i).map f).length < sizeLine := by rw [List.length_map, List.length_take]; omega
    have q := turn i xs[i] v F4 H4 H5 hx e4 hy (fun y H => ∃ acc, H D = some (.lst acc) ∧ acc.length < sizeLine ∧ LcI r F H1 D (fun i => (xs.take i).map f) (i + 1) (upd H D (.lst (acc ++ [y])))) (fun y F7 H7 e7 q => LcI.yes (f xs[i]) hD e4 f4 hD4 al4 e7 q (by show List.map f _ = _; rw [map_more hx]) hzz)
    simpa only [tYes, reduceIte] using q
  · intro H7 h7
    obtain ⟨F7, vs7, e7, fD7, al7⟩ := h7.frz hD
    rw [hn, List.take_length] at al7
    exact hd vs7 F7 H7 e7 fD7 al7
end
section
variable {K : PySem.W.Frag} {β : Type}
/-- [e for c in names], the names' list frozen -/
theorem lc_cs {r : Rl β} [Mono r] {g : TG} {te : TE} {vs : List Nat} {σ : L2.St} {F H1 : Hp} {D a : Addr} {Qd : Hp → Prop} (cs : List Nat) (f : Nat → β) (hD : H1 D = none) (sF : Same F H1) (ha : F a = some (.lst (cs.map vc))) (hz : cs.length < sizeLine)
    (turn : ∀ c F4 H4, c ∈ cs → Ext F H1 F4 H4 → ∀ (Qy : V → Hp → Prop), (∀ y F7 H7, Ext F4 H4 F7 H7 → r F7 y (f c) → Qy y H7) → g (vc c) (wipe σ vs) H4 fun σ2 H6 => wipe σ2 vs = wipe σ vs ∧ te σ2 H6 Qy)
    (hd : ∀ ws F' H', Ext F H1 F' H' → F' D = some (.lst ws) → Al r F' ws (cs.map f) → Qd H') :
    ∃ W : Nat → Nat → Hp → Prop, (∃ m, W 0 m (upd H1 D (.lst []))) ∧ ∀ i m H, W i m H →
      ((Itl K a).stop i H ∧ Qd H) ∨ ((Itl K a).go i H ∧ ∃ Nx : Hp → Prop, (∀ H', Nx H' → ∃ m', m' < m ∧ W (i + 1) m' H') ∧ ∀ x H', (Itl K a).yld i H x H' → g x (wipe σ vs) H' fun σ2 H2 => wipe σ2 vs = wipe σ vs ∧ tYes σ2 H2 fun b H3 =>
        if b = true then te σ2 H3 fun y H4 => ∃ acc, H4 D = some (.lst acc) ∧ acc.length < sizeLine ∧ Nx (upd H4 D (.lst (acc ++ [y]))) else Nx H3) := by
  refine lcmap (walk_list (K := K) (a := a) (xs := cs.map vc)) cs f hD sF (List.length_map ..) hz (fun F4 H4 e => SqL.of (e.sm _ _ ha)) (fun i c v F4 H4 H5 hc e hy Qy q => ?_) hd
  obtain ⟨rfl, hy⟩ := hy
  have : v = vc c := by
    have := map_get' (f := vc) hc
    rw [hy] at this
    exact Option.some.inj this
  subst this
  exact turn c F4 H5 (List.mem_of_getElem? hc) e Qy q
/-- [e for c in text] -/
theorem lc_chars {r : Rl β} [Mono r] {g : TG} {te : TE} {vs : List Nat} {σ : L2.St} {F H1 : Hp} {D : Addr} {Qd : Hp → Prop} (cs : List Nat) (f : Nat → β) (hD : H1 D = none) (sF : Same F H1) (hz : cs.length < sizeLine)
    (turn : ∀ c F4 H4, c ∈ cs → Ext F H1 F4 H4 → ∀ (Qy : V → Hp → Prop), (∀ y F7 H7, Ext F4 H4 F7 H7 → r F7 y (f c) → Qy y H7) → g (vc c) (wipe σ vs) H4 fun σ2 H6 => wipe σ2 vs = wipe σ vs ∧ te σ2 H6 Qy)
    (hd : ∀ ws F' H', Ext F H1 F' H' → F' D = some (.lst ws) → Al r F' ws (cs.map f) → Qd H') :
    ∃ W : Nat → Nat → Hp → Prop, (∃ m, W 0 m (upd H1 D (.lst []))) ∧ ∀ i m H, W i m H →
      ((Its (S cs)).stop i H ∧ Qd H) ∨ ((Its (S cs)).go i H ∧ ∃ Nx : Hp → Prop, (∀ H', Nx H' → ∃ m', m' < m ∧ W (i + 1) m' H') ∧ ∀ x H', (Its (S cs)).yld i H x H' → g x (wipe σ vs) H' fun σ2 H2 => wipe σ2 vs = wipe σ vs ∧ tYes σ2 H2 fun b H3 =>
        if b = true then te σ2 H3 fun y H4 => ∃ acc, H4 D = some (.lst acc) ∧ acc.length < sizeLine ∧ Nx (upd H4 D (.lst (acc ++ [y]))) else Nx H3) := by
  refine lcmap (walk_str (z := S cs)) cs f hD sF (S_size cs) hz (fun _ _ _ => trivial) (fun i c v F4 H4 H5 hc e hy Qy q => ?_) hd
  obtain ⟨rfl, ch, h1, rfl⟩ := hy
  have h1 := S_get h1
  rw [hc] at h1
  obtain rfl := Option.some.inj h1
  exact turn c F4 H5 (List.mem_of_getElem? hc) e Qy q
/-- [e for i in range(n)] -/
theorem lc_rng {r : Rl β} [Mono r] {g : TG} {te : TE} {vs : List Nat} {σ : L2.St} {F H1 : Hp} {D : Addr} {Qd : Hp → Prop} {n : Nat} (f : Nat → β) (hD : H1 D = none) (sF : Same F H1) (hz : n < sizeLine)
    (turn : ∀ i F4 H4, i < n → Ext F H1 F4 H4 → ∀ (Qy : V → Hp → Prop), (∀ y F7 H7, Ext F4 H4 F7 H7 → r F7 y (f i) → Qy y H7) → g (.int (0 + (i : Nat))) (wipe σ vs) H4 fun σ2 H6 => wipe σ2 vs = wipe σ vs ∧ te σ2 H6 Qy)
    (hd : ∀ ws F' H', Ext F H1 F' H' → F' D = some (.lst ws) → Al r F' ws ((List.range n).map f) → Qd H') :
    ∃ W : Nat → Nat → Hp → Prop, (∃ m, W 0 m (upd H1 D (.lst []))) ∧ ∀ i m H, W i m H →
      ((Itr 0 n).stop i H ∧ Qd H) ∨ ((Itr 0 n).go i H ∧ ∃ Nx : Hp → Prop, (∀ H', Nx H' → ∃ m', m' < m ∧ W (i + 1) m' H') ∧ ∀ x H', (Itr 0 n).yld i H x H' → g x (wipe σ vs) H' fun σ2 H2 => wipe σ2 vs = wipe σ vs ∧ tYes σ2 H2 fun b H3 =>
        if b = true then te σ2 H3 fun y H4 => ∃ acc, H4 D = some (.lst acc) ∧ acc.length < sizeLine ∧ Nx (upd H4 D (.lst (acc ++ [y]))) else Nx H3) := by
  refine lcmap (walk_range (lo := 0) (n := n)) (List.range n) f hD sF List.length_range.symm (by rw [List.length_range]; exact hz) (fun _ _ _ => trivial) (fun i c v F4 H4 H5 hc e hy Qy q => ?_) hd
  obtain ⟨rfl, rfl⟩ := hy
  have hlt : i < n := by have := (List.getElem?_eq_some_iff.mp hc).1; rwa [List.length_range] at this
  rw [List.getElem?_range hlt] at hc
  obtain rfl := Option.some.inj hc
  exact turn i F4 H5 hlt e Qy q
end
end SF
/-! ### sets of texts, made of a list, and sorted -/
namespace SF
open PySem PySem.Spec PyProof.Rows L2 PySem.Froz
/-- at a stands a set of the texts l (none twice); its table rises and can be walked -/
def TS (P : Program) (w : World) (h : Heap) (a : Addr) (l : List Str) : Prop :=
  ∃ D : SD, h.get? a = some (sObj "set" D) ∧ TxOk P w D l ∧ l.Nodup ∧ Ris D.2.2.place.toList ∧ (w.params.followText "set-order" = true ∨ D.2.2.led = true)
section
variable {P : Program} {w : World} {A : Around} {E : Value → Shared → Prop} {s : Shared}
theorem TS.at {h h' : Heap} {a : Addr} {l : List Str} (R : TS P w h a l) (k : ∀ o, h.get? a = some o → h'.get? a = some o) : TS P w h' a l := by
  obtain ⟨D, ho, r⟩ := R
  exact ⟨D, k _ ho, r⟩
theorem addTx_walk {h : Int} {v : Value} {D : SD} (r : Ris D.2.2.place.toList) : Ris (addTx h v D).2.2.place.toList ∧ (addTx h v D).2.2.led = D.2.2.led := by
  have h1 := layNew_ris D.2.2 D.1 h v r
  have h2 := layNew_led D.2.2 D.1 h v
  have key : ∀ (ep : Nat) (es1 : Array (Int × Value)) (t2 : SetTable) (b : Bool), Ris t2.place.toList → t2.led = D.2.2.led → Ris (tailTx ep es1 t2 b).2.2.place.toList ∧ (tailTx ep es1 t2 b).2.2.led = D.2.2.led := by
    intro ep es1 t2 b q1 q2
    unfold tailTx
    split
    · exact ⟨relayAll_ris t2 es1 _, (relayAll_led t2 es1 _).trans q2⟩
    · exact ⟨q1, q2⟩
  unfold addTx
  split
  · exact key _ _ _ _ h1 h2
  · exact key _ _ _ _ h1 h2
/-- what stands there already -/
theorem add_old {a : Addr} {T : String} {D : SD} {l : List Str} {k : Str} {u : Tok} {Q : Bool → Shared → Prop} (ho : s.heap.get? a = some (sObj T D)) (F : TxOk P w D l) (hk : k ∈ l) (hb : l.length < scanBound) (h : Q false s) :
    wpAny (model P w) A (setAddHashed a (.str k u) (hashStr w k)) Q E s := by
  obtain ⟨es, ep, t⟩ := D
  have hel : ElemsOf (strKind P w) es.toList := F.el
  have hsz : es.size = l.length := F.sz
  unfold setAddHashed setAddHashedIn
  refine wpAny_holding (wpAny_bind (wpAny_setState_of ho rfl F.fit ?_))
  dsimp only
  rw [byScan_of rfl (by omega) hel]
  simp only [↓reduceIte]
  unfold setAddByScan
  refine wpAny_bind (wpAny_bind (wpAny_rule (wpAny_bind (wpAny_setScan_of (knd := strKind P w) (k := k) (is_str k u) ho rfl F.fit hel ?_))))
  cases hr : List.findIdx? (fun e => (strKind P w).is k e.2) es.toList with
  | some j => exact wpAny_pure (wpAny_pure h)
  | none =>
    obtain ⟨e, he, q⟩ := (F.mem k).mp hk
    have c := List.findIdx?_eq_none_iff.mp hr e he
    rw [q] at c
    cases c
/-- one text more -/
theorem TS.add {a : Addr} {l : List Str} {k : Str} {u : Tok} {Q : Bool → Shared → Prop} (R : TS P w s.heap a l) (hb : l.length + 1 < scanBound)
    (h : ∀ b h', Heap.SameBut a s.heap h' → TS P w h' a (if k ∈ l then l else k :: l) → Q b { s with heap := h' }) : wpAny (model P w) A (setAddHashed a (.str k u) (hashStr w k)) Q E s := by
  have R0 := R
  obtain ⟨D, ho, F, nd, r, hl⟩ := R
  by_cases hk : k ∈ l
  · refine add_old ho F hk (by omega) ?_
    have q := h false s.heap (Heap.SameBut.refl a s.heap)
    rw [if_pos hk] at q
    exact q R0
  · refine add_x ho F hk hb ?_
    obtain ⟨r2, l2⟩ := addTx_walk (h := hashStr w k) (v := .str k u) r
    refine h true _ (Heap.SameBut.update s.heap a _) ?_
    rw [if_neg hk]
    exact ⟨addTx (hashStr w k) (.str k u) D, get_upd _ ho rfl, add_ok u F, List.nodup_cons.mpr ⟨hk, nd⟩, r2, hl.imp id fun z => l2.trans z⟩
/-- the texts met in the first i -/
def met (ks : List Str) : Nat → List Str
  | 0 => []
  | i + 1 => match ks[i]? with
    | some k => if k ∈ met ks i then met ks i else k :: met ks i
    | none => met ks i
theorem met_len (ks : List Str) : ∀ i, (met ks i).length ≤ i
  | 0 => Nat.le_refl _
  | i + 1 => by
    have ih := met_len ks i
    unfold met
    split
    · split
      · omega
      · simp only [List.length_cons]; omega
    · omega
theorem met_mem (ks : List Str) (x : Str) : ∀ i, x ∈ met ks i ↔ x ∈ ks.take i
  | 0 => by simp [met]
  | i + 1 => by
    have ih := met_mem ks x i
    unfold met
    cases q : ks[i]? with
    | none =>
      dsimp only
      rw [ih]
      have : ks.length ≤ i := List.getElem?_eq_none_iff.mp q
      rw [List.take_of_length_le this, List.take_of_length_le (by omega)]
    | some k =>
      dsimp only
      rw [take_more q, List.mem_append, ← ih]
      split
      · rename_i hk
        constructor
        · exact .inl
        · rintro (z | z)
          · exact z
          · simp at z; subst z; exact hk
      · simp [or_comm]
theorem met_nodup (ks : List Str) : ∀ i, (met ks i).Nodup
  | 0 => by simp [met]
  | i + 1 => by
    have ih := met_nodup ks i
    unfold met
    split
    · split
      · exact ih
      · rename_i q; exact List.nodup_cons.mpr ⟨q, ih⟩
    · exact ih
theorem upd_loop {I : Addr} {fp wr : List Addr} {G : Array GenState → Array GenState → Prop} {n : Nat} {Pv : Nat → Value → Prop} {St : Nat → Shared → Prop} {R : Result → Shared → Prop}
    (W : WalksS P w A.in1 I fp wr G n Pv St) (a : Addr) (haf : a ∉ fp) (ks : List Str) (hn : n = ks.length) (hb : ks.length + 1 < scanBound) (hv : ∀ i v, Pv i v → ∃ k u, ks[i]? = some k ∧ v = .str k u) :
    ∀ (m i : Nat) (s : Shared), n - i = m → i ≤ n → St i s → TS P w s.heap a (met ks i) → (∀ s', Moved (a :: wr) G s s' → TS P w s'.heap a (met ks n) → R (.ok (.ret .none)) s') →
      codeAny (model P w) A (.builtin "set.update.loop" ⟨[.ref a, .ref I], []⟩) R s := by
  have haw : a ∉ wr := fun h => haf (W.sub _ h)
  have sub : ∀ b ∈ wr, b ∈ a :: wr := fun b hb => List.mem_cons_of_mem _ hb
  intro m
  induction m with
  | zero =>
    intro i s hm hi hst hS hR
    obtain rfl : i = n := by omega
    refine codeAny_builtin F.entry_set_update_loop ?_
    rw [Around.under_plainId F.plain_set_update_loop _]
    refine wpAny_bind (W.done s _ _ hst fun s' mv => ?_)
    exact wpAny_pure (hR s' (mv.mono sub) (hS.at fun o e => mv.heap a o haw e))
  | succ m ih =>
    intro i s hm hi hst hS hR
    have hlt : i < n := by omega
    refine codeAny_builtin F.entry_set_update_loop ?_
    rw [Around.under_plainId F.plain_set_update_loop _]
    refine wpAny_bind (W.item i s _ _ hlt hst fun v s' hP hst' mv => ?_)
    obtain ⟨k, u, hk, rfl⟩ := hv i v hP
    have hS' : TS P w s'.heap a (met ks i) := hS.at fun o e => mv.heap a o haw e
    show wpAny _ A.in1 (holding [Value.str k u] (setAdd a (.str k u)) >>= _) _ _ s'
    refine wpAny_bind (wpAny_holding ?_)
    unfold setAdd
    refine wpAny_holding (wpAny_bind ((strKind P w).pyHash (is_str k u) ?_))
    have hz := met_len ks i
    refine TS.add (s := { s' with toks := s'.toks + 1 }) hS' (by omega) fun b h' sb hS2 => ?_
    have e2 : (if k ∈ met ks i then met ks i else k :: met ks i) = met ks (i + 1) := by
      show _ = (match ks[i]? with | some k => if k ∈ met ks i then met ks i else k :: met ks i | none => met ks i)
      rw [hk]
    rw [e2] at hS2
    refine wpAny_pure ⟨plainId_quiet F.plain_set_update_loop _, ih (i + 1) _ (by omega) hlt (W.frame _ s' _ _ hst' (Nat.le_add_right _ _) fun b hb o e => ?_) hS2 fun s'' mv2 hS3 => ?_⟩
    · rw [sb.2 b (fun h : b = a => haf (by rw [← h]; exact hb))]; exact e
    · refine hR s'' (Moved.trans W.gtrans ((mv.mono sub).then_heap (Nat.le_add_right _ _) fun b o hb e => ?_) mv2) hS3
      rw [sb.2 b (fun h : b = a => hb (by rw [h]; exact List.mem_cons_self))]; exact e
end
section
variable {P : Program} {w : World} {A : Around} {E : Value → Shared → Prop} {s : Shared}
/-- the object of a new set -/
abbrev set0 (w : World) : Obj := { cls := .type "set", dict := none, data := .set #[] 0 (.fresh 0 0 (!w.params.followText "set-order")) }
theorem TS.fresh {h : Heap} {a : Addr} (ho : h.get? a = some (set0 w)) : TS P w h a [] :=
  ⟨(#[], 0, .fresh 0 0 (!w.params.followText "set-order")), ho, TxOk.nil rfl, List.nodup_nil, (by show Ris (#[] : Array Nat).toList; unfold Ris; simp), by
    show _ ∨ (!w.params.followText "set-order") = true
    cases w.params.followText "set-order" <;> simp⟩
/-- the walk of set.__init__ over a list of texts -/
theorem set_init {a l : Addr} {items : Array Value} {ks : List Str} {R : Result → Shared → Prop} (hh : A.handled = none) (ha : s.heap.get? a = some (set0 w)) (hl : s.heap.IsList l items) (hisz : items.size = ks.length) (hb : ks.length + 1 < scanBound)
    (hit : ∀ (i : Nat) v, items[i]? = some v → ∃ k u, ks[i]? = some k ∧ v = .str k u) (hal : a ≠ l)
    (h : ∀ h' tk, TS P w h' a (met ks ks.length) → (∀ b o, b ≠ a → s.heap.get? b = some o → h'.get? b = some o) → R (.ok (.ret .none)) { s with heap := h', toks := tk }) :
    codeAny (model P w) A (.builtin "set.update.loop" ⟨[.ref a, .ref s.heap.objs.size], []⟩) R { s with heap := s.heap.push { cls := .type "list_iterator", data := .fields #[.ref l, .int 0 0] } } := by
  have hlt : l < s.heap.objs.size := let ⟨_, e, _⟩ := hl; Heap.lt_size e
  have hat : a < s.heap.objs.size := Heap.lt_size ha
  have hfp : a ∉ [s.heap.objs.size, l] := by
    simp only [List.mem_cons, List.not_mem_nil, or_false, not_or]
    exact ⟨Nat.ne_of_lt hat, hal⟩
  refine upd_loop ((Walks.list (A := A.in1) (by simp [hh]) _ l (Nat.ne_of_lt hlt) items).toS) a hfp ks hisz hb hit (items.size - 0) 0 _ rfl (Nat.zero_le _) ⟨⟨_, Heap.get?_push_size _ rfl, rfl, rfl⟩, hl.push _⟩ (TS.fresh (Heap.get?_push_of_some _ ha)) fun s' mv hS => ?_
  obtain ⟨h', g2, d', tk', os'⟩ := s'
  obtain rfl : g2 = s.gens := mv.gens
  obtain rfl : d' = s.drawn := mv.drawn
  obtain rfl : os' = s.os := mv.os
  rw [hisz] at hS
  refine h h' tk' hS fun b o hba e => mv.heap b o (fun hb => ?_) (Heap.get?_push_of_some _ e)
  rcases List.mem_cons.mp hb with z | z
  · exact hba z
  · rw [List.mem_singleton.mp z] at e
    exact absurd (Heap.lt_size e) (Nat.lt_irrefl _)
/-- set(xs), xs a list of texts -/
theorem call_set_texts {l : Addr} {items : Array Value} {ks : List Str} {Q : Value → Shared → Prop} (hh : A.handled = none) (hl : s.heap.IsList l items) (hisz : items.size = ks.length) (hb : ks.length + 1 < scanBound)
    (hit : ∀ (i : Nat) v, items[i]? = some v → ∃ k u, ks[i]? = some k ∧ v = .str k u)
    (h : ∀ h' tk, TS P w h' s.heap.objs.size (met ks ks.length) → (∀ b o, s.heap.get? b = some o → h'.get? b = some o) → Q (.ref s.heap.objs.size) { s with heap := h', toks := tk }) :
    wpAny (model P w) A (call (.type "set") [.ref l]) Q E s := by
  obtain ⟨c, tl, hmro⟩ := F.called_set.mro
  have hmade := F.called_set.made
  have hsub := F.called_set.sub
  have h1 := F.called_set.notType
  have h2 := F.called_set.canCreate
  have hct := F.typeCall_set_1 (.ref l)
  have kS : ∀ b o, s.heap.get? b = some o → (s.heap.push (set0 w)).get? b = some o := fun b o e => Heap.get?_push_of_some _ e
  have hS : (s.heap.push (set0 w)).get? s.heap.objs.size = some (set0 w) := Heap.get?_push_size _ rfl
  have hT : Shared.TypeIs { s with heap := s.heap.push (set0 w) } (.ref s.heap.objs.size) "set" := ⟨_, hS, rfl⟩
  have hli := F.called_set.init.lookup
  have hbi := F.called_set.init.bind (.ref s.heap.objs.size)
  refine wpAny_call (codeAny_of_tree ?_)
  show wpAny _ _ (callAny (.type "set") _) _ _ _
  refine wpAny_pure ⟨Code.quiet_builtin _ (by decide +kernel), codeAny_builtin F.entry_type_call ?_⟩
  rw [Around.under_plain (weight_type_call_type "set" [.ref l] []) rfl]
  repeat (any_goals (first | assumption | wp_step))
  refine codeAny_mono (code_set_led1 (.ref l) (E := E) (Q₁ := fun obj s₁ => obj = .ref s.heap.objs.size ∧ s₁ = { s with heap := s.heap.push (set0 w) }) ⟨rfl, rfl⟩) fun r s₁ hr => ?_
  cases r with
  | error e => exact hr
  | ok fl =>
    cases fl with
    | ret obj =>
      obtain ⟨rfl, rfl⟩ := hr
      repeat (any_goals (first | assumption | wp_step))
      refine codeAny_mono (codeAny_call_builtin (R := wants (fun r s₂ => r = .none ∧ ∃ h' tk, s₂ = { s with heap := h', toks := tk } ∧ TS P w h' s.heap.objs.size (met ks ks.length) ∧ (∀ b o, s.heap.get? b = some o → h'.get? b = some o)) E)
        F.called_set.init.plain F.entry_set_init (check_set_init_1 hT ?_)) fun r₂ s₂ hr₂ => ?_
      · obtain ⟨ol, hol, hcl, nl, hdl⟩ := id hl
        obtain ⟨ocls, odict, odata, oslots⟩ := ol
        simp only at hcl hdl
        subst hcl; subst hdl
        have hol' : (s.heap.push (set0 w)).get? l = some { cls := .type "list", dict := odict, data := .seq items nl, slots := oslots } := kS _ _ hol
        have hsls := F.sub_list_set
        have hslf := F.sub_list_frozenset
        have hne : (Value.type "list" == Value.type "dict") = false := by decide
        have hl1 : (s.heap.push (set0 w)).IsList l items := ⟨_, hol', rfl, nl, rfl⟩
        unfold Builtin.«set.__init__» noKeywords Builtin.Frozenset.updateFrom
        generalize hPI : pyIter = PI
        wp_walk
        subst hPI
        refine wpAny_pyIter_list hl1 ?_
        refine wpAny_bind (wpAny_runValue ?_)
        refine set_init (s := { s with heap := s.heap.push (set0 w) }) (by simp [hh]) hS hl1 hisz hb hit (Nat.ne_of_gt (Heap.lt_size hol)) fun h' tk hR k' => ?_
        show wpAny _ _ _ _ _ _
        refine wpAny_pure ?_
        show wpAny _ _ (ret Value.none) _ _ _
        exact wpAny_pure ⟨rfl, h', tk, rfl, hR, fun b o e => k' b o (Nat.ne_of_lt (Heap.lt_size e)) (kS b o e)⟩
      · cases r₂ with
        | error e => exact hr₂
        | ok fl₂ =>
          cases fl₂ with
          | ret r =>
            obtain ⟨rfl, h', tk, rfl, hS', hk'⟩ := hr₂
            repeat (any_goals (first | assumption | wp_step))
            exact h _ _ hS' hk'
          | _ => exact hr₂.elim
    | _ => exact hr.elim
end
/-! ### sorted of such a set -/
section
variable {P : Program} {w : World} {A : Around} {E : Value → Shared → Prop} {s : Shared}
theorem strs_out {es : List (Int × Value)} (h : ElemsOf (PySem.strKind P w) es) : ∀ e ∈ es, ∃ x t, e.2 = .str x t := fun e he => by
  obtain ⟨⟨k, hk, _⟩, _⟩ := h e he
  exact ⟨k, Value.isStrOf_shape (x := k) (v := e.2) hk⟩
theorem sorted_texts {a : Addr} {l : List Str} {Q : Value → Shared → Prop} (R : TS P w s.heap a l) (hh : A.handled = none) (h64 : l.length < 64)
    (hQ : ∀ s' p (out : Array Value) (c : Nat) (ys : List Str), (∀ b o, s.heap.get? b = some o → s'.heap.get? b = some o) → s'.gens = s.gens → s'.os = s.os → s.heap.objs.size ≤ p →
      s'.heap.get? p = some (seqObj "list" out c) → StrsAre out.toList ys → ys.Nodup → (∀ x, x ∈ ys ↔ x ∈ l) → sortedS ys = true → Q (.ref p) s') :
    wpAny (model P w) A (call (.builtin "sorted") [.ref a]) Q E s := by
  obtain ⟨⟨es, ep, t⟩, ho, FT, nd, r, hled⟩ := R
  have hes : es.size = l.length := FT.sz
  refine Calls.call_function_entry kind_sorted plain_sorted entry_sorted (args_sorted1 _) ?_
  unfold Builtin.«sorted»
  refine wpAny_bind (m := checkCount "sorted" 1 1 _) (wpAny_pure ?_)
  have hc : SetAt s.heap a es ep t := ⟨_, ho, rfl, rfl⟩
  refine wpAny_bind (collect_set (A := A.in1) hh hc FT.fit (by rw [hes]; unfold scanBound; omega) r hled fun s1 vs k1 hz g1 o1 pm => ?_)
  have hvs : ∀ v ∈ vs, ∃ x t, v = .str x t := fun v hv => by
    obtain ⟨e, he, q⟩ := List.mem_map.mp (pm.mem_iff.mp hv)
    obtain ⟨x, tk, h1⟩ := strs_out FT.el e he
    exact ⟨x, tk, by rw [← q]; exact h1⟩
  have hS : StrsAre vs (vs.map strOf) := strsAre_map vs hvs
  have hvl : vs.length = l.length := by rw [pm.length_eq, List.length_map, Array.length_toList, hes]
  refine wpAny_bind (wpAny_newList ?_ (by rw [hvl, sizeLine_eq]; omega))
  have hoL : (s1.heap.push (seqObj "list" vs.toArray 0)).get? s1.heap.objs.size = some (seqObj "list" vs.toArray 0) := Heap.get?_push_size _ rfl
  refine wpAny_bind (wpAny_holding (wpAny_call_entry slot_list_sort ⟨_, hoL, rfl⟩ entry_list_sort (list_sort_treeK strKind_oneLt hoL hS.keysOf (fun v₁ v₂ rest e => keyKind_strs (by rw [← e]; exact hS)) (by rw [hvl]; exact h64) fun st' hp hs => ⟨_, rfl, ?_⟩) (args_list_sort _)))
  obtain ⟨ys, y1, y2, y3⟩ := sorted_out_str hS hp hs
  obtain ⟨c, hcc⟩ := sortedHeap_at (vs := vs) (out := (arrOf st').map (·.2)) hoL
  have mem1 : ∀ x, x ∈ vs.map strOf ↔ x ∈ l := fun x => by
    rw [(FT.mem x)]
    constructor
    · intro hx
      obtain ⟨v, hv, rfl⟩ := List.mem_map.mp hx
      obtain ⟨e, he, q⟩ := List.mem_map.mp (pm.mem_iff.mp hv)
      obtain ⟨y, tk, rfl⟩ := hvs v hv
      exact ⟨e, he, by rw [q]; exact is_str _ _⟩
    · rintro ⟨e, he, q⟩
      refine List.mem_map.mpr ⟨e.2, pm.mem_iff.mpr (List.mem_map_of_mem he), ?_⟩
      obtain ⟨tk, z⟩ := Value.isStrOf_shape (x := x) (v := e.2) q
      rw [z]; rfl
  have ndv : (vs.map strOf).Nodup := by
    have hsub := nodup_le (l := l) (s := vs.map strOf) nd fun x hx => (mem1 x).mpr hx
    rw [List.length_map, hvl] at hsub
    exact nodup_of_len nd (fun x hx => (mem1 x).mpr hx) (by rw [List.length_map, hvl])
  refine wpAny_pure ⟨_, rfl, hQ _ s1.heap.objs.size _ c ys (fun b u e => ?_) g1 o1 hz hcc y1 (y2.nodup_iff.mpr ndv) (fun x => by rw [y2.mem_iff, mem1 x]) y3⟩
  have q := k1 b u e
  have hlt := Heap.lt_size q
  show (sortedHeap (s1.heap.push (seqObj "list" vs.toArray 0)) s1.heap.objs.size vs _).get? b = some u
  rw [sortedHeap_old (Nat.ne_of_lt hlt) (by rw [size_push']; exact Nat.lt_succ_of_lt hlt)]
  exact Heap.get?_push_of_some _ q
end
/-! ### over the layer -/
def TSO (P : Program) (w : World) (a : Addr) (l : List Str) : HO := .ext fun h => TS P w h a l
section
variable {X : Cx}
theorem tso_ok {P : Program} {w : World} {H : Hp} {h : Heap} {a : Addr} {l : List Str} (R : TS P w h a l) : ObjOk P w H h a (TSO P w a l) := by
  have ⟨D, ho, _⟩ := R
  exact ⟨R, ⟨_, ho⟩, fun h1 h2 p k => p.at k⟩
def rSetL (K : PySem.W.Frag) (P : Program) (w : World) : List V → Hp → VK → Prop := fun xs H Q => ∃ (l : Addr) (ks : List Str), xs = [.ref l] ∧ SqL K H l (ks.map V.str) ∧ ks.length < 4000 ∧
  ∀ p, H p = none → Q (.ref p) (upd H p (TSO P w p (met ks ks.length)))
theorem cr_setOf (hc : X.calm = true) : CallR X (.type "set") (rSetL X.K X.prog X.w) := by
  intro pins s σ H xs us Q I r h
  obtain ⟨l, ks, rfl, hs, hz, q⟩ := h
  obtain ⟨its, rv, pl, _⟩ := I.list hs
  rw [Vals.ref1 r]
  have hlen := rv.length
  rw [List.length_map] at hlen
  refine call_set_texts (I.ok.hd hc) pl.isList (ks := ks) (by rw [List.size_toArray]; exact hlen.symm) (by unfold scanBound; omega) (fun i v hv => ?_) fun h' tk R k => ?_
  · have hv' : its[i]? = some v := by simpa using hv
    have hi : i < ks.length := by rw [hlen]; exact (List.getElem?_eq_some_iff.mp hv').1
    have e1 : (ks.map V.str)[i]? = some (.str ks[i]) := by rw [List.getElem?_map, List.getElem?_eq_getElem hi]; rfl
    obtain ⟨u, e2, r2⟩ := rv.get e1
    rw [hv'] at e2
    obtain rfl := Option.some.inj e2
    obtain ⟨t, rfl⟩ := r2
    exact ⟨_, t, List.getElem?_eq_getElem hi, rfl⟩
  · exact ⟨.ref _, _, I.laid (t' := tk) k (Nat.le_refl _) (tso_ok R), rfl, q _ (I.hok.fresh (Nat.le_refl _))⟩
def rSortSet (P : Program) (w : World) : List V → Hp → VK → Prop := fun vs H Q => ∃ (a : Addr) (l : List Str), vs = [V.ref a] ∧ H a = some (TSO P w a l) ∧ l.length < 64 ∧
  ∀ (ys : List Str) (p : Addr), ys.Nodup → (∀ x, x ∈ ys ↔ x ∈ l) → sortedS ys = true → ys.length ≤ 64 → H p = none → Q (.ref p) (upd H p (.lst (ys.map V.str)))
theorem cr_sortedSet' (hc : X.calm = true) : CallR X (.builtin "sorted") (rSortSet X.prog X.w) := by
  intro pins s σ H vs us Q I r h
  obtain ⟨a, l, rfl, ha, h64, q⟩ := h
  have R : TS X.prog X.w s.heap a l := (I.hok a _ ha).1
  rw [Vals.ref1 r]
  refine sorted_texts R (I.ok.hd hc) h64 fun s' p out c ys k g o hp hg hi nd hm hs => ?_
  have hl : ys.length ≤ l.length := nodup_le nd fun x hx => (hm x).mp hx
  have hlen : (ys.map V.str).length ≤ sizeLine := by rw [List.length_map, sizeLine_eq]; omega
  have hn : H p = none := I.hok.fresh hp
  have J : Inv X pins σ (upd H p (.lst (ys.map V.str))) { s with heap := s'.heap, gens := s'.gens, drawn := s'.drawn, toks := s'.toks } :=
    I.call (ch := []) (Un.laid k hp hn) (I.hok.laid k hp ⟨hlen, out.toList, c, vals_of_strs hi, hg⟩) (by rw [g]; exact I.bare) (fun _ z => nomatch z)
  have e : s' = { s with heap := s'.heap, gens := s'.gens, drawn := s'.drawn, toks := s'.toks } := by
    cases s'
    cases s
    cases o
    rfl
  rw [e]
  exact ⟨.ref p, _, J, rfl, q ys p nd hm hs (by omega) hn⟩
end
section
variable {X : Cx} {K : PySem.W.Frag} {P : Program} {w : World}
theorem cr_setOfK (hc : X.calm = true) (h : X.K = K := by rfl) (hP : X.prog = P := by rfl) (hw : X.w = w := by rfl) : CallR X (.type "set") (rSetL K P w) := by subst h hP hw; exact cr_setOf hc
theorem cr_sortedSetK (hc : X.calm = true) (hP : X.prog = P := by rfl) (hw : X.w = w := by rfl) : CallR X (.builtin "sorted") (rSortSet P w) := by subst hP hw; exact cr_sortedSet' hc
end
/-! ### sorted sets of one-letter texts -/
theorem rising_le : ∀ (l : List Nat) (p : Nat), risingS (S [p]) (l.map fun c => S [c]) = true → (p :: l).Pairwise (· ≤ ·)
  | [], p, _ => by simp
  | x :: r, p, h => by
    have h' : (!ltCps (S [x]).cps.toList (S [p]).cps.toList && risingS (S [x]) (r.map fun c => S [c])) = true := h
    rw [Bool.and_eq_true, S_cps, S_cps] at h'
    have hpx : p ≤ x := by
      have := h'.1
      simp [ltCps] at this
      omega
    have ih := rising_le r x h'.2
    rw [List.pairwise_cons]
    refine ⟨fun y hy => ?_, ih⟩
    rcases List.mem_cons.mp hy with z | z
    · omega
    · have := (List.pairwise_cons.mp ih).1 y z
      omega
theorem sorted_le : ∀ (l : List Nat), sortedS (l.map fun c => S [c]) = true → l.Pairwise (· ≤ ·)
  | [], _ => .nil
  | x :: r, h => rising_le r x h
theorem le_lt : ∀ {l : List Nat}, l.Pairwise (· ≤ ·) → l.Nodup → l.Pairwise (· < ·)
  | [], _, _ => .nil
  | a :: l, h, n => by
    rw [List.pairwise_cons] at h ⊢
    rw [List.nodup_cons] at n
    refine ⟨fun b hb => ?_, le_lt h.2 n.2⟩
    have h1 := h.1 b hb
    have h2 : a ≠ b := fun e => n.1 (e ▸ hb)
    omega
/-- what sorted(set(names_in(b))) is -/
theorem sorted_names {b : List Nat} {ys l : List Str} (nd : ys.Nodup) (hm : ∀ x, x ∈ ys ↔ x ∈ l) (hl : ∀ x, x ∈ l ↔ x ∈ (namesIn b).map fun c => S [c]) (hs : sortedS ys = true) : ys = (sortedNames b).map fun c => S [c] := by
  have key : ∀ (ys : List Str), (∀ x ∈ ys, ∃ c, x = S [c]) → ∃ cs : List Nat, ys = cs.map fun c => S [c] := by
    intro ys
    induction ys with
    | nil => intro _; exact ⟨[], rfl⟩
    | cons y r ih =>
      intro h
      obtain ⟨cs, hcs⟩ := ih fun x hx => h x (List.mem_cons_of_mem _ hx)
      obtain ⟨c, hc⟩ := h y List.mem_cons_self
      exact ⟨c :: cs, by rw [hcs, hc]; rfl⟩
  have inj : ∀ a c : Nat, S [a] = S [c] → a = c := fun a c h => by simpa using S_inj.mp h
  obtain ⟨cs, rfl⟩ := key ys fun x hx => by
    obtain ⟨c, _, e⟩ := List.mem_map.mp ((hl x).mp ((hm x).mp hx))
    exact ⟨c, e.symm⟩
  have mem : ∀ c, c ∈ cs ↔ c ∈ sortedNames b := fun c => by
    rw [sortedNames_mem]
    have q := (hm (S [c])).trans (hl (S [c]))
    constructor
    · intro hc
      obtain ⟨d, hd, e⟩ := List.mem_map.mp (q.mp (List.mem_map_of_mem hc))
      rw [← inj _ _ e]; exact hd
    · intro hc
      obtain ⟨d, hd, e⟩ := List.mem_map.mp (q.mpr (List.mem_map_of_mem hc))
      rw [← inj _ _ e]; exact hd
  have nd' : cs.Nodup := List.Pairwise.of_map (f := fun c => S [c]) (S := (· ≠ ·)) (R := (· ≠ ·)) (fun a c h e => h (by rw [e])) nd
  rw [asc_eq (le_lt (sorted_le cs hs) nd') (sortedNames_asc b) mem]
end SF
namespace SF
open PySem PySem.Spec PyProof.Rows L2
/-! ### text[::-1] -/
theorem range_fm (l : List Nat) : (List.range l.length).filterMap (l.toArray[·]?) = l := by
  have key : ∀ k, k ≤ l.length → (List.range k).filterMap (l.toArray[·]?) = l.take k := by
    intro k
    induction k with
    | zero => intro _; rfl
    | succ k ih =>
      intro hk
      rw [List.range_succ, List.filterMap_append, ih (by omega), take_more (List.getElem?_eq_getElem (show k < l.length by omega))]
      congr 1
      simp [show k < l.length by omega]
  have := key l.length (Nat.le_refl _)
  rwa [List.take_length] at this
theorem rev_ix (n : Nat) : Builtin.Str.strSliceIndices none none (-1) n = (List.range n).reverse := by
  show sliceRange ((n : Int) - 1) (-1) (-1) = _
  rw [PySem.W.krv_sliceRange, PySem.W.krv_range]
def tRevS (te : TE) : TE := fun σ H Q => te σ H fun x H1 => ∃ l, x = .str (S l) ∧ l.length ≤ sizeLine ∧ Q (.str (S l.reverse)) H1
section
variable {X : Cx}
theorem pe_revS {e : Expr} {te : TE} {k : Nat} {p1 p2 p3 pos : Pos} (he : PE X e te) : PE X (.Subscript e (.Slice none none (some (.UnaryOp .USub (.Constant (.int 1) k p1) p2)) p3) pos) (tRevS te) := by
  refine ⟨fun pins s σ H Q I h => ?_⟩
  refine Subscript_ (thn (he.run pins s σ H _ I h) fun v s1 ⟨x, H1, I1, r1, q1⟩ => ?_)
  obtain ⟨z, ex, hz, q⟩ := q1
  subst ex
  obtain ⟨t, rfl⟩ := r1
  have hst : PO X (some (.UnaryOp .USub (.Constant (.int 1) k p1) p2)) (tPart (tUn (rU fun i => .int (-i)) (tC (.int 1)))) := po_some (pe_un un_neg pe_int)
  refine wpAny_Slice (thn (po_none.run pins s1 σ H1 (fun o H2 => o = none ∧ H2 = H1) I1 ⟨rfl, rfl⟩) fun vl s2 ⟨l, H2, I2, pl, el, e2⟩ => ?_)
  subst el e2
  refine thn (po_none.run pins s2 σ H2 (fun o H3 => o = none ∧ H3 = H2) I2 ⟨rfl, rfl⟩) fun vu s3 ⟨u, H3, I3, pu, eu, e3⟩ => ?_
  subst eu e3
  refine thn (hst.run pins s3 σ H3 (fun o H4 => o = some (-1) ∧ H4 = H3) I3 ⟨1, rfl, -1, rfl, rfl, rfl⟩) fun vs s4 ⟨o, H4, I4, ps, eo, e4⟩ => ?_
  subst eo e4
  have I5 : Inv X pins σ H4 { s4 with heap := s4.heap.push { cls := .type "slice", data := .fields #[vl, vu, vs] } } := I4.kept (t' := s4.toks) fun b ob q => Heap.get?_push_of_some _ q
  obtain ⟨l', rl, el⟩ := IsPart.raw pl
  obtain ⟨u', ru, eu⟩ := IsPart.raw pu
  obtain ⟨st', rs, es⟩ := IsPart.raw ps
  subst rl ru rs
  show wpAny (model X.prog X.w) X.A (subscriptTail e (.Slice none none (some (.UnaryOp .USub (.Constant (.int 1) k p1) p2)) p3) (.str (S z) t) (.ref s4.heap.objs.size)) (EP X pins σ Q) X.xe { s4 with heap := s4.heap.push { cls := .type "slice", data := .fields #[partValue l', partValue u', partValue st'] } }
  refine tail_any (T := "str") (id := "str.__getitem__") (ops := [.str (S z) t, .ref s4.heap.objs.size]) (typeIs_str _ _ _) (PySem.F.slot_str_getitem.lookup) ?_ (by with_unfolding_all rfl)
  have hsl : ({ s4 with heap := s4.heap.push { cls := .type "slice", data := .fields #[partValue l', partValue u', partValue st'] } } : Shared).heap.IsSlice s4.heap.objs.size l' u' st' := ⟨_, Heap.get?_push_size _ rfl, rfl, rfl⟩
  have e1 : (st'.map (·.1)) = some (-1) := es
  have e2 : (l'.map (·.1)) = none := el
  have e3 : (u'.map (·.1)) = none := eu
  refine wpAny_getItem_str_slice hsl (by rw [e1]; rfl) ?_
  unfold sliceMade slicePicked
  rw [e1, e2, e3]
  show Made.post (if ((-1 : Int) == 1 && _) = true then _ else Made.str ⟨((Builtin.Str.strSliceIndices none none (-1) (S z).length).filterMap ((S z).cps[·]?)).toArray⟩) (EP X pins σ Q) _
  rw [show ((-1 : Int) == 1) = false from rfl, Bool.false_and, if_neg Bool.false_ne_true, rev_ix, S_len, List.filterMap_reverse, range_fm]
  exact ⟨by rw [show (⟨z.reverse.toArray⟩ : Str) = S z.reverse from rfl, S_len, List.length_reverse]; exact hz, .str (S z.reverse), H4, I5.tok _, ⟨_, rfl⟩, q⟩
end
/-! ### everything new is frozen -/
def allF (F H H' : Hp) : Hp := fun b => if H b = none then H' b else F b
theorem Ext.all {F H H' : Hp} (s : Same F H) (h : Same H H') : Ext F H (allF F H H') H' where
  hh := h
  ff := fun b u q => by
    unfold allF
    rw [if_neg (by rw [s b u q]; simp)]
    exact q
  fh := fun b u q => by
    unfold allF at q
    by_cases c : H b = none
    · rw [if_pos c] at q; exact q
    · rw [if_neg c] at q; exact h b u (s b u q)
  nf := fun b hb hf => by
    unfold allF
    rw [if_neg hb]; exact hf
theorem allF_new {F H H' : Hp} {b : Addr} (h : H b = none) : allF F H H' b = H' b := if_pos h
/-- behind a lock -/
theorem same_unlock {H H' : Hp} {d : Addr} {o : Obj} {u : HO} (h : Same (upd H d (.frz o u)) H') (hd : H d = some u) : Same H (upd H' d u) := fun b q e => by
  by_cases c : b = d
  · subst c; rw [upd_same, ← e, hd]
  · rw [upd_ne c]; exact h b q (by rw [upd_ne c]; exact e)
/-! ### an instance's attributes -/
theorem putF_ne {k f : Str} {x v : V} {l : List (Str × V)} (h : ¬ k = f) : putF f v ((k, x) :: l) = (k, x) :: putF f v l := by
  rw [putF]
  exact if_neg h
theorem putF_eq {f : Str} {x v : V} {l : List (Str × V)} : putF f v ((f, x) :: l) = (f, v) :: l := by
  rw [putF]
  exact if_pos rfl
theorem putF_nil {f : Str} {v : V} : putF f v [] = [(f, v)] := rfl
theorem look_eq {f : Str} {x : V} {l : List (Str × V)} : List.lookup f ((f, x) :: l) = some x := by
  rw [List.lookup_cons, beq_self_eq_true]
theorem look_ne {f k : Str} {x : V} {l : List (Str × V)} (h : ¬ f = k) : List.lookup f ((k, x) :: l) = List.lookup f l := by
  rw [List.lookup_cons, beq_eq_false_iff_ne.mpr h]
theorem look_nil {f : Str} : List.lookup f ([] : List (Str × V)) = none := rfl
/-! ### dict comprehensions over any walk -/
section
variable {J : It} {n : Nat} {G : Hp → Prop} {Y : Nat → Hp → V → Hp → Prop}
theorem dc_it (w : Walk J n G Y) {g : TG} {tt : TT} {tk tv : TE} {vs : List Nat} {σ : L2.St} {H1 : Hp} {D : Addr} {Qd : Hp → Prop} (Pv : Nat → Hp → Prop) (h0 : Pv 0 (upd H1 D (.dK []))) (hG : ∀ i H, i ≤ n → Pv i H → G H)
    (hs : ∀ i x H H', i < n → Pv i H → Y i H x H' → g x (wipe σ vs) H' fun σ2 H2 => wipe σ2 vs = wipe σ vs ∧ tt σ2 H2 fun b H3 =>
      if b = true then tk σ2 H3 fun y H4 => tv σ2 H4 fun z H5 => ∃ kvs k, y = kV k ∧ H5 D = some (.dK kvs) ∧ kvs.length < sizeLine ∧ Pv (i + 1) (upd H5 D (.dK (putK kvs k z))) else Pv (i + 1) H3) (hd : ∀ H, Pv n H → Qd H) :
    ∃ W : Nat → Nat → Hp → Prop, (∃ m, W 0 m (upd H1 D (.dK []))) ∧ ∀ i m H, W i m H →
      (J.stop i H ∧ Qd H) ∨ (J.go i H ∧ ∃ Nx : Hp → Prop, (∀ H', Nx H' → ∃ m', m' < m ∧ W (i + 1) m' H') ∧ ∀ x H', J.yld i H x H' → g x (wipe σ vs) H' fun σ2 H2 => wipe σ2 vs = wipe σ vs ∧ tt σ2 H2 fun b H3 =>
        if b = true then tk σ2 H3 fun y H4 => tv σ2 H4 fun z H5 => ∃ kvs k, y = kV k ∧ H5 D = some (.dK kvs) ∧ kvs.length < sizeLine ∧ Nx (upd H5 D (.dK (putK kvs k z))) else Nx H3) := by
  refine ⟨fun i m H => m = n - i ∧ i ≤ n ∧ Pv i H, ⟨n, by simp, Nat.zero_le _, h0⟩, ?_⟩
  rintro i m H ⟨rfl, hi, p⟩
  have q := hG i H hi p
  by_cases hlt : i < n
  · exact .inr ⟨w.goes i H hlt q, Pv (i + 1), fun H' p' => ⟨n - (i + 1), by omega, rfl, hlt, p'⟩, fun x H' y => hs i x H H' hlt p (w.yields i H x H' hlt q y)⟩
  · have e : i = n := by omega
    subst e
    exact .inl ⟨w.stops H q, hd H p⟩
end
section
variable {X : Cx}
theorem sw_trueD {kx vx : Expr} {gs : List Comprehension} {scope : Scope} {pos py : Pos} {y : Str} {l : Nat} {env : Env} (hk : env.scope.kind = .function) (hy : env.scope.names.lookup y = some .local) (hl : (py.line == pos.line) = true)
    (ha : (scope.names.any fun (n, k) => n == y && (k == .local || k == .cell)) = false) : swapsWith (.DictComp kx vx gs scope pos) (some (.Name y py)) l env = pure true := by
  have ky : env.kindOf y = some .local := hy
  have hb : env.blockKind = .function := by unfold Env.blockKind; rw [hk]; rfl
  unfold swapsWith
  simp only [hb, ky, ha, Expr.pos, hl]
  rfl
theorem ps_setDc {i : Nat} {y : Str} {py : Pos} {kx vx tg iter : Expr} {ifs : List Expr} {scope : Scope} {own : List (Str × Nat)} {pos spos : Pos} {wi : TI} {g : TG} {tt : TT} {tk tv : TE} (hc : X.calm = true) (hN : X.N.Nodup) (hy : X.N[i]? = some y) (hyl : X.env.scope.names.lookup y = some .local)
    (hsw : swapsWith (.DictComp kx vx [⟨tg, iter, ifs, 0⟩] scope pos) (some (.Name y py)) spos.line X.env = pure true) (hi : PI X tg iter wi) (ok : BlkOk X.N X.env.scope scope own)
    (hg : ∀ (s : Shared) (H : Hp) (C : Addr) (cl : List (Str × Addr)) (fp : List Addr), PG (X.blk s H scope (compEnvC scope cl C X.env) fp) tg g) (ht : ∀ (s : Shared) (H : Hp) (C : Addr) (cl : List (Str × Addr)) (fp : List Addr), PTs (X.blk s H scope (compEnvC scope cl C X.env) fp) ifs tt)
    (hk : ∀ (s : Shared) (H : Hp) (C : Addr) (cl : List (Str × Addr)) (fp : List Addr), PE (X.blk s H scope (compEnvC scope cl C X.env) fp) kx tk)
    (he : ∀ (s : Shared) (H : Hp) (C : Addr) (cl : List (Str × Addr)) (fp : List Addr), PE (X.blk s H scope (compEnvC scope cl C X.env) fp) vx tv) (hs : ∀ x, foldedSetIterable iter X.env x = pure x := by intro _; rfl) :
    PS X (.Assign [.Name y py] (.DictComp kx vx [⟨tg, iter, ifs, 0⟩] scope pos) spos) (tAsg (tDc wi g tt tk tv (own.map (·.2))) (gName i)) := by
  refine ⟨fun pins s σ H D I h => ?_⟩
  rw [exec_Assign_Name_used _ _ _ _ hsw]
  refine wpAny_bind (wpAny_standAt (wpAny_bind ?_))
  show wpAny _ X.A (do let _ ← comprehension (.DictComp kx vx [⟨tg, iter, ifs, 0⟩] scope pos) scope X.env (firstIterPos [⟨tg, iter, ifs, 0⟩] pos) newDict false (eval iter X.env) (some (assign (.Name y py) X.env))) _ _ s
  have h : tDc wi g tt tk tv (own.map (·.2)) σ H (fun x H1 => gName i x σ H1 D.nx) := h
  refine wpAny_bind (thn (dc_core (Qf := fun _ s' => SP X pins D .next s') hc hN I hi ok hg ht hk he hs h fun L C s' m H' I' q hn f => ?_) fun _ s' hq => wpAny_pure (wpAny_pure hq))
  show wpAny _ _ (assign (.Name y py) X.env (.ref L)) _ _ _
  refine wpAny_assign_Name (store_ok2 (v := V.ref L) I' hN hy (.inl hyl) rfl (fun s2 I2 ⟨a, sb, ha⟩ => ?_) (.inr hyl))
  obtain ⟨f0, f1, f2, f3, f4, f5⟩ := f
  have haC : C ≠ a := by
    rcases ha with z | z
    · rw [z]; exact f1
    · exact fun e => f4 y a z e.symm
  refine ⟨m, hn.sameBut sb haC, fun h3 sb3 => ?_⟩
  exact ⟨_, H', I2.turned (t' := s2.toks) (fun b o hb e => (sb3.2 b hb).trans e) f0 f1 f3 f4 f5, q⟩
end
section
variable {X : Cx} {K : PySem.W.Frag}
theorem isiK (h : X.K = K := by rfl) : CallR X (.builtin "isinstance") (rIsi K) := by subst h; exact call_isi
theorem pe_cvalK {e : Expr} {ta : TE} {f : Str} {pos : Pos} (he : PE X e ta) (hb : attributeBase e f X.env (eval e X.env) = eval e X.env := by rfl) (h : X.K = K := by rfl) : PE X (.Attribute e f pos) (ClX.tCVal K ta f) := by subst h; exact ClX.pe_cval he hb
end
end SF
namespace SF
abbrev Pair := List Nat × List Nat
structure Tab where
  pairs : List Pair
  numbers : List Nat
  vanishing : List (Nat × Bool)
  byName : List (List Nat × List Nat)
def headAt (pairs : List Pair) (n : Nat) : List Nat := (pairs[n]?.map (·.1)).getD []
def bnStep (pairs : List Pair) (m : List (List Nat × List Nat)) (n : Nat) : List (List Nat × List Nat) := aPut m (headAt pairs n) ((aGet m (headAt pairs n)).getD [] ++ [n])
def mkByName (pairs : List Pair) (numbers : List Nat) : List (List Nat × List Nat) := numbers.foldl (bnStep pairs) []
def mkTab (pairs : List Pair) (numbers : List Nat) (van : List (Nat × Bool)) : Tab := ⟨pairs, numbers, van, mkByName pairs numbers⟩
structure Gram where
  rules : List Rule
  root : Nat
namespace Gram
variable (g : Gram)
def lens : List (Nat × Nat) := leastLengths g.rules
def useful : List Nat := usefulNumbers g.rules g.root g.lens
def best : Best := leastDerivations g.rules g.useful g.lens
def van : List (Nat × Bool) := ((g.best.map (·.1)).filter fun c => decide ((aGet g.lens c).getD 0 = 0)).map fun c => (c, true)
def pairs : List Pair := (g.rules.map fun r => ([r.1], r.2)) ++ [([60, 62], [60, g.root, 62])]
def numbers : List Nat := g.useful ++ [g.rules.length]
def fwd : Tab := mkTab g.pairs g.numbers g.van
def bwd : Tab := mkTab (g.pairs.map fun p => (p.1, p.2.reverse)) g.numbers g.van
/-- a grammar that is let -/
structure Ok : Prop where
  few : 1 ≤ g.rules.length ∧ g.rules.length ≤ 16
  rok : RulesOk g.rules
  here : g.root ∈ g.rules.map (·.1)
  ends : (aGet g.lens g.root).isSome = true
  some_ : g.useful ≠ []
  short : ∀ n ∈ g.useful, ∀ r, g.rules[n]? = some r → (aGet g.lens r.1).getD 0 ≤ 24
  bne : g.best ≠ []
  fast : ∀ c t, aGet g.best c = some t → t.a ≤ 100
end Gram
end SF
namespace SF
open PySem PySem.Spec PyProof.Rows L2
def encS (l : List Nat) : Key := Sum.inr (S l)
theorem encS_inj (a b : List Nat) (h : encS a = encS b) : a = b := S_inj.mp (Sum.inr.inj h)
/-- a list of numbers that may still change, made since H2 -/
def rML (H2 : Hp) : Rl (List Nat) := fun H v x => ∃ l, v = .ref l ∧ H l = some (.lst (x.map vn)) ∧ H2 l = none
instance {H2 : Hp} : Mono (rML H2) := ⟨fun s h => by
  obtain ⟨l, e, h1, h2⟩ := h
  exact ⟨l, e, s _ _ h1, h2⟩⟩
theorem valV_mem {κ : Type} [DecidableEq κ] {k : κ} {v : V} : ∀ {kvs : List (κ × V)}, valV kvs k = some v → v ∈ kvs.map (·.2)
  | [], h => by cases h
  | p :: r, h => by
    by_cases e : p.1 = k
    · rw [valV_pos e] at h
      cases h
      exact List.mem_cons_self
    · rw [valV_neg e] at h
      exact List.mem_cons_of_mem _ (valV_mem h)
theorem rML.upd {H2 H : Hp} {v : V} {x : List Nat} {q : Addr} {o : HO} (h : rML H2 H v x) (hq : v ≠ .ref q) : rML H2 (upd H q o) v x := by
  obtain ⟨l, rfl, h1, h2⟩ := h
  exact ⟨l, rfl, by rw [upd_ne (fun e => hq (by rw [e]))]; exact h1, h2⟩
theorem AD.updM {H2 H : Hp} {q : Addr} {o : HO} : ∀ {kvs : List (Key × V)} {m : List (List Nat × List Nat)}, AD encS (rML H2) H kvs m → .ref q ∉ kvs.map (·.2) → AD encS (rML H2) (upd H q o) kvs m
  | _, _, .nil, _ => .nil
  | _, _, .cons h t, hq => .cons ⟨h.1, h.2.upd (fun e => hq (by rw [List.map_cons, e]; exact List.mem_cons_self))⟩ (AD.updM t fun z => hq (List.mem_cons_of_mem _ z))
/-- an address that holds no list of the dict -/
theorem AD.notin {H2 H : Hp} {q : Addr} {o : HO} (hq : H q = some o) (ho : ∀ xs, o ≠ .lst xs) : ∀ {kvs : List (Key × V)} {m : List (List Nat × List Nat)}, AD encS (rML H2) H kvs m → .ref q ∉ kvs.map (·.2)
  | _, _, .nil => by simp
  | _, _, .cons h t => by
    intro z
    rw [List.map_cons] at z
    rcases List.mem_cons.mp z with z | z
    · obtain ⟨l, e, h1, _⟩ := h.2
      rw [e] at z
      cases z
      rw [hq] at h1
      exact ho _ (Option.some.inj h1)
    · exact AD.notin hq ho t z
theorem AD.notin0 {H2 H : Hp} {q : Addr} (hq : H q = none) : ∀ {kvs : List (Key × V)} {m : List (List Nat × List Nat)}, AD encS (rML H2) H kvs m → .ref q ∉ kvs.map (·.2)
  | _, _, .nil => by simp
  | _, _, .cons h t => by
    intro z
    rw [List.map_cons] at z
    rcases List.mem_cons.mp z with z | z
    · obtain ⟨l, e, h1, _⟩ := h.2
      rw [e] at z
      cases z
      rw [hq] at h1
      cases h1
    · exact AD.notin0 hq t z
/-- one of the lists changes -/
theorem AD.chg {H2 H : Hp} {k y : List Nat} {l : Addr} (hl2 : H2 l = none) : ∀ {kvs : List (Key × V)} {m : List (List Nat × List Nat)}, AD encS (rML H2) H kvs m → (kvs.map (·.2)).Nodup → (m.map (·.1)).Nodup → valV kvs (encS k) = some (.ref l) →
    AD encS (rML H2) (upd H l (.lst (y.map vn))) kvs (aPut m k y)
  | _, _, .nil, _, _, hv => by cases hv
  | _, _, .cons (l₁ := kvs) (l₂ := m) (a := kv) (b := x0) h t, nd, kn, hv => by
    rw [List.map_cons, List.nodup_cons] at nd kn
    by_cases e : x0.1 = k
    · have e1 : kv.1 = encS k := by rw [h.1, e]
      rw [valV_pos e1] at hv
      have hv' := Option.some.inj hv
      have hput : aPut (x0 :: m) k y = (x0.1, y) :: m := by
        unfold aPut
        rw [List.any_cons, decide_eq_true e, Bool.true_or, if_pos rfl, List.map_cons, if_pos e]
        congr 1
        have key : ∀ m : List (List Nat × List Nat), k ∉ m.map (·.1) → (m.map fun p => if p.1 = k then (p.1, y) else p) = m := by
          intro m
          induction m with
          | nil => intro _; rfl
          | cons p r ih =>
            intro hk
            rw [List.map_cons] at hk
            rw [List.map_cons, if_neg (fun z => hk (by rw [z]; exact List.mem_cons_self)), ih (fun z => hk (List.mem_cons_of_mem _ z))]
        exact key m (by rw [← e]; exact kn.1)
      rw [hput]
      refine .cons ⟨h.1, l, hv', upd_same, hl2⟩ (AD.updM t ?_)
      rw [← hv']
      exact nd.1
    · have e1 : ¬ kv.1 = encS k := fun z => e (encS_inj _ _ (h.1.symm.trans z))
      rw [valV_neg e1] at hv
      have hne : kv.2 ≠ .ref l := fun z => nd.1 (by rw [z]; exact valV_mem hv)
      have ih := AD.chg hl2 t nd.2 kn.2 hv (y := y)
      have hput : aPut (x0 :: m) k y = x0 :: aPut m k y := by
        unfold aPut
        rw [List.any_cons, decide_eq_false e, Bool.false_or]
        split
        · rw [List.map_cons, if_neg e]
        · rfl
      rw [hput]
      exact .cons ⟨h.1, h.2.upd hne⟩ ih
/-- frozen at the end -/
theorem AD.fin {F H2 H : Hp} : ∀ {kvs : List (Key × V)} {m : List (List Nat × List Nat)}, AD encS (rML H2) H kvs m → AD encS (rL rNat) (allF F H2 H) kvs m
  | _, _, .nil => .nil
  | _, _, .cons h t => by
    obtain ⟨h0, l, e, h1, h2⟩ := h
    refine .cons ⟨h0, l, _, e, (allF_new h2).trans h1, ?_⟩ (AD.fin t)
    have key : ∀ xs : List Nat, Al rNat (allF F H2 H) (xs.map vn) xs := by
      intro xs
      induction xs with
      | nil => exact .nil
      | cons a r ih => exact .cons rfl ih
    exact key _
theorem aPut_put {κ α : Type} [DecidableEq κ] (m : List (κ × α)) (k : κ) (x y : α) : aPut (aPut m k x) k y = aPut m k y := by
  have h1 : ((aPut m k x).any fun p => decide (p.1 = k)) = true := by
    rw [aGet_any, aGet_put, if_pos rfl]; rfl
  have key : ∀ (m : List (κ × α)), ((m.map fun p => if p.1 = k then (p.1, x) else p).map fun p => if p.1 = k then (p.1, y) else p) = m.map fun p => if p.1 = k then (p.1, y) else p := by
    intro m
    rw [List.map_map]
    apply List.map_congr_left
    intro p _
    show (if (if p.1 = k then (p.1, x) else p).1 = k then _ else _) = _
    by_cases e : p.1 = k
    · rw [if_pos e]; simp [e]
    · rw [if_neg e, if_neg e, if_neg e]
  rw [aPut, if_pos h1]
  unfold aPut
  by_cases h : (m.any fun p => decide (p.1 = k)) = true
  · rw [if_pos h, if_pos h, key]
  · rw [if_neg h, if_neg h, List.map_append]
    have key2 : ∀ (m : List (κ × α)), (m.any fun p => decide (p.1 = k)) = false → (m.map fun p => if p.1 = k then (p.1, y) else p) = m := by
      intro m
      induction m with
      | nil => intro _; rfl
      | cons p r ih =>
        intro hh
        rw [List.any_cons, Bool.or_eq_false_iff] at hh
        rw [List.map_cons, if_neg (of_decide_eq_false hh.1), ih hh.2]
    rw [key2 m (Bool.eq_false_iff.mpr h)]
    simp
/-! ### tables -/
def rTab (C : Addr) : Rl Tab := fun F v t => ∃ p dx pa na va ba, v = .ref p ∧ F p = some (.ins C dx [("pairs", .ref pa), ("numbers", .ref na), ("vanishing", .ref va), ("by_name", .ref ba)]) ∧
  rL (rP rS rS) F (.ref pa) t.pairs ∧ rL rNat F (.ref na) t.numbers ∧ rD encN rB F (.ref va) t.vanishing ∧ rD encS (rL rNat) F (.ref ba) t.byName
instance {C : Addr} : Mono (rTab C) := ⟨fun s h => by
  obtain ⟨p, dx, pa, na, va, ba, e, h0, h1, h2, h3, h4⟩ := h
  exact ⟨p, dx, pa, na, va, ba, e, s _ _ h0, Mono.mono s h1, Mono.mono s h2, Mono.mono s h3, Mono.mono s h4⟩⟩
theorem aPut_new {κ α : Type} [DecidableEq κ] {m : List (κ × α)} {k : κ} {x : α} (h : aGet m k = none) : aPut m k x = m ++ [(k, x)] := by
  unfold aPut
  rw [aGet_any, h]
  rfl
theorem nodup_take {α : Type} {l : List α} {i : Nat} {x : α} (h : l.Nodup) (hx : l[i]? = some x) : x ∉ l.take i := by
  intro hm
  have h2 : (l.take i ++ l.drop i).Nodup := by rw [List.take_append_drop]; exact h
  rw [List.nodup_append] at h2
  exact h2.2.2 x hm x (List.mem_iff_getElem?.mpr ⟨0, by rw [List.getElem?_drop]; exact hx⟩) rfl
theorem al_pairs {F : Hp} : ∀ {vs : List V} {rules : List Rule}, Al rRule F vs rules → Al (rP rS rS) F vs (rules.map fun r => ([r.1], r.2))
  | _, _, .nil => .nil
  | _, _, .cons h t => .cons h (al_pairs t)
theorem S_lt : (Str.ofString "<") = S [60] := by decide
theorem S_gt : (Str.ofString ">") = S [62] := by decide
theorem S_ltgt : (Str.ofString "<>") = S [60, 62] := by decide
theorem al_nats {F : Hp} : ∀ xs : List Nat, Al rNat F (xs.map vn) xs
  | [] => .nil
  | _ :: r => .cons rfl (al_nats r)
theorem al_cs {F : Hp} : ∀ xs : List Nat, Al rC F (xs.map vc) xs
  | [] => .nil
  | _ :: r => .cons rfl (al_cs r)
end SF
namespace SF
section
variable {α β : Type} {f : β × Bool → α → β × Bool}
theorem fold_quiet (hq : ∀ st x, (f st x).2 = false → f st x = st) : ∀ {l : List α} {st : β × Bool}, (l.foldl f st).2 = false → l.foldl f st = st ∧ ∀ x ∈ l, f st x = st
  | [], st, _ => ⟨rfl, fun x hx => by cases hx⟩
  | a :: l, st, h => by
    rw [List.foldl_cons] at h ⊢
    obtain ⟨h1, h2⟩ := fold_quiet hq h
    rw [h1] at h ⊢
    have h3 := hq st a h
    rw [h3] at h2
    refine ⟨h3, fun x hx => ?_⟩
    rcases List.mem_cons.mp hx with rfl | hx
    · exact h3
    · exact h2 x hx
end
theorem rounds_fix {α : Type} {f : α → α × Bool} (P : α → Prop) (μ : α → Nat) (h : ∀ m, P m → P (f m).1 ∧ ((f m).2 = true → μ (f m).1 < μ m) ∧ ((f m).2 = false → (f m).1 = m)) :
    ∀ (n : Nat) (m : α), P m → μ m < n → P (rounds f n m) ∧ (f (rounds f n m)).2 = false
  | 0, m, _, hm => absurd hm (Nat.not_lt_zero _)
  | n + 1, m, hp, hm => by
    obtain ⟨h1, h2, h3⟩ := h m hp
    unfold rounds
    cases hb : (f m).2 with
    | true =>
      rw [if_pos rfl]
      have := h2 hb
      exact rounds_fix P μ h n (f m).1 h1 (by omega)
    | false =>
      rw [if_neg Bool.false_ne_true, h3 hb]
      exact ⟨hp, hb⟩
theorem llStep_quiet (st : List (Nat × Nat) × Bool) (r : Rule) (h : (llStep st r).2 = false) : llStep st r = st := by
  unfold llStep at h ⊢
  split
  · split
    · rename_i h1 h2
      rw [if_pos h1, if_pos h2] at h
      cases h
    · rfl
  · rfl
section
variable {rules : List Rule}
theorem ll_fin (hr : RulesOk rules) : LLok (leastLengths rules) ∧ (llRound rules (leastLengths rules)).2 = false := by
  refine rounds_fix (f := llRound rules) LLok mu (fun m hm => ?_) llFuel [] LLok.nil (Nat.lt_succ_self _)
  obtain ⟨h1, h2, h3, h4⟩ := llFold (rules := rules) (m, false) (fun r hx => ⟨(hr r hx).1, (hr r hx).2.1⟩) hm
  exact ⟨h1, h3 rfl, fun h => by rw [show llRound rules m = _ from h4 h]⟩
/-- every rule whose names have lengths has a length no greater than its total -/
theorem ll_fix (hr : RulesOk rules) {r : Rule} (hm : r ∈ rules) (ha : allIn (leastLengths rules) r.2 = true) : ∃ x, aGet (leastLengths rules) r.1 = some x ∧ x ≤ total (leastLengths rules) r.2 := by
  obtain ⟨_, h2⟩ := ll_fin hr
  have := (fold_quiet llStep_quiet h2).2 r hm
  unfold llStep at this
  rw [show allIn (leastLengths rules, false).1 r.2 = true from ha, if_pos rfl] at this
  cases hb : better (leastLengths rules) r with
  | true =>
    rw [show better (leastLengths rules, false).1 r = true from hb, if_pos rfl] at this
    have := congrArg Prod.snd this
    cases this
  | false =>
    unfold better at hb
    cases q : aGet (leastLengths rules) r.1 with
    | none => rw [q] at hb; cases hb
    | some x =>
      rw [q] at hb
      have := of_decide_eq_false hb
      exact ⟨x, rfl, by omega⟩
theorem useful_mem {root n : Nat} {lens : List (Nat × Nat)} : n ∈ usefulNumbers rules root lens ↔ ∃ r, rules[n]? = some r ∧ usefulAt (reached rules root lens) lens r = true := by
  unfold usefulNumbers
  rw [List.mem_map]
  constructor
  · rintro ⟨⟨r, m⟩, h1, rfl⟩
    rw [List.mem_filter] at h1
    obtain ⟨h1, h2⟩ := h1
    rw [List.mem_iff_getElem?] at h1
    obtain ⟨i, h1⟩ := h1
    rw [List.getElem?_zipIdx] at h1
    cases q : rules[i]? with
    | none => rw [q] at h1; cases h1
    | some x =>
      rw [q] at h1
      have e := Option.some.inj h1
      simp at e
      obtain ⟨rfl, rfl⟩ := e
      exact ⟨x, q, h2⟩
  · rintro ⟨r, h1, h2⟩
    refine ⟨(r, n), List.mem_filter.mpr ⟨?_, h2⟩, rfl⟩
    rw [List.mem_iff_getElem?]
    exact ⟨n, by rw [List.getElem?_zipIdx, h1]; simp⟩
theorem useful_len {root : Nat} {lens : List (Nat × Nat)} : (usefulNumbers rules root lens).length ≤ rules.length := by
  unfold usefulNumbers
  rw [List.length_map]
  have := List.length_filter_le (fun p : Rule × Nat => usefulAt (reached rules root lens) lens p.1) rules.zipIdx
  rw [List.length_zipIdx] at this
  exact this
end
namespace Gram.Ok
variable {g : Gram}
theorem rule (h : g.Ok) {n : Nat} (hn : n ∈ g.useful) : ∃ r, g.rules[n]? = some r ∧ RuOk g.lens r := by
  obtain ⟨r, h1, h2⟩ := useful_mem.mp hn
  have hm := List.mem_of_getElem? h1
  obtain ⟨a, b, c⟩ := h.rok r hm
  unfold usefulAt at h2
  rw [Bool.and_eq_true] at h2
  obtain ⟨x, hx, _⟩ := ll_fix h.rok hm h2.2
  exact ⟨r, h1, a, b, c, h2.2, by show (aGet (leastLengths g.rules) r.1).isSome = true; rw [hx]; rfl, h.short n hn r h1⟩
theorem bestOk (h : g.Ok) : LDok g.lens g.best := by
  have := (rounds_fix (f := ldRound g.rules g.lens g.useful) (LDok g.lens) muD (fun m hm => ?_) ldFuel [] (LDok.nil _) (Nat.lt_succ_self _)).1
  · exact this
  · obtain ⟨h1, h2, h3, h4⟩ := ldFold (rules := g.rules) (lens := g.lens) (numbers := g.useful) (m, false) (fun n hn => h.rule hn) hm
    exact ⟨h1, h3 rfl, fun q => by rw [show ldRound g.rules g.lens g.useful m = _ from h4 q]⟩
end Gram.Ok
end SF
namespace SF
/-- the body derives the string of signs -/
inductive DerW (rules : List Rule) : List Nat → List Nat → Prop
  | nil : DerW rules [] []
  | sign {c b w} : nam c = false → DerW rules b w → DerW rules (c :: b) (c :: w)
  | name {r b w1 w2} : r ∈ rules → nam r.1 = true → DerW rules r.2 w1 → DerW rules b w2 → DerW rules (r.1 :: b) (w1 ++ w2)
section
variable {rules : List Rule}
theorem DerW.app : ∀ {a w : List Nat}, DerW rules a w → ∀ {b w2 : List Nat}, DerW rules b w2 → DerW rules (a ++ b) (w ++ w2) := by
  intro a w h
  induction h with
  | nil => intro b w2 h2; exact h2
  | sign hc _ ih => intro b w2 h2; exact .sign hc (ih h2)
  | name hr hn h1 _ _ ih2 =>
    intro b w2 h2
    rw [List.append_assoc]
    exact .name hr hn h1 (ih2 h2)
/-- lengths that derivations have -/
def LSound (rules : List Rule) (m : List (Nat × Nat)) : Prop := ∀ c x, aGet m c = some x → ∃ w, DerW rules [c] w ∧ w.length = x
theorem LSound.body {m : List (Nat × Nat)} (h : LSound rules m) : ∀ {b : List Nat}, allIn m b = true → ∃ w, DerW rules b w ∧ w.length = total m b
  | [], _ => ⟨[], .nil, rfl⟩
  | c :: b, hb => by
    obtain ⟨h1, h2⟩ := allIn_cons.mp hb
    obtain ⟨w, d, e⟩ := LSound.body h h2
    rw [total_cons]
    by_cases hn : nam c = true
    · rw [if_pos hn]
      cases q : aGet m c with
      | none => have := h1 hn; rw [q] at this; cases this
      | some x =>
        obtain ⟨w1, d1, e1⟩ := h c x q
        refine ⟨w1 ++ w, d1.app d, ?_⟩
        rw [List.length_append, e1, e]
        rfl
    · rw [if_neg hn]
      refine ⟨c :: w, .sign (by simpa using hn) d, ?_⟩
      rw [List.length_cons, e, Nat.add_comm]
theorem ll_sound (hr : RulesOk rules) : LSound rules (leastLengths rules) := by
  have key : ∀ (l : List Rule) (st : List (Nat × Nat) × Bool), (∀ r ∈ l, r ∈ rules) → LSound rules st.1 → LSound rules (l.foldl llStep st).1 := by
    intro l
    induction l with
    | nil => intro st _ h; exact h
    | cons r l ih =>
      intro st hl h
      rw [List.foldl_cons]
      refine ih _ (fun x hx => hl x (List.mem_cons_of_mem _ hx)) ?_
      unfold llStep
      split
      · rename_i ha
        split
        · intro c x hx
          rw [aGet_put] at hx
          split at hx
          · rename_i e
            subst e
            cases hx
            obtain ⟨w, d, e⟩ := h.body ha
            have hm := hl r List.mem_cons_self
            refine ⟨w ++ [], .name hm (hr r hm).1 d .nil, by rw [List.append_nil]; exact e⟩
          · exact h c x hx
        · exact h
      · exact h
  have key2 : ∀ (n : Nat) (m : List (Nat × Nat)), LSound rules m → LSound rules (rounds (llRound rules) n m) := by
    intro n
    induction n with
    | zero => intro m h; exact h
    | succ n ih =>
      intro m h
      have h2 : LSound rules (llRound rules m).1 := key rules (m, false) (fun _ h => h) h
      unfold rounds
      split
      · exact ih _ h2
      · exact h2
  exact key2 _ _ (fun c x h => by cases h)
theorem ll_least (hr : RulesOk rules) : ∀ {b w : List Nat}, DerW rules b w → allIn (leastLengths rules) b = true ∧ total (leastLengths rules) b ≤ w.length := by
  intro b w h
  induction h with
  | nil => exact ⟨rfl, Nat.le_refl _⟩
  | sign hc _ ih =>
    refine ⟨allIn_cons.mpr ⟨fun z => (by rw [hc] at z; cases z), ih.1⟩, ?_⟩
    rw [total_cons, if_neg (by rw [hc]; exact Bool.false_ne_true), List.length_cons]
    have := ih.2
    omega
  | name hm hn _ _ ih1 ih2 =>
    obtain ⟨x, hx, hle⟩ := ll_fix hr hm ih1.1
    refine ⟨allIn_cons.mpr ⟨fun _ => by rw [hx]; rfl, ih2.1⟩, ?_⟩
    rw [total_cons, if_pos hn, hx, List.length_append]
    have h1 := ih1.2
    have h2 := ih2.2
    show x + _ ≤ _
    omega
/-! ### the reached names are closed -/
section
variable {α : Type} {lens : List (Nat × α)}
def ClosedAt (rules : List Rule) (lens : List (Nat × α)) (re : List Nat) (c : Nat) : Prop := ∀ r ∈ rules, r.1 = c → allIn lens r.2 = true → ∀ x ∈ namesIn r.2, x ∈ re
theorem uFold_closed {c : Nat} : ∀ {l : List Rule} {re : List Nat}, ∀ r ∈ l, r.1 = c → allIn lens r.2 = true → ∀ x ∈ namesIn r.2, x ∈ l.foldl (uStep lens c) re
  | [], _, r, hr, _, _, _, _ => by cases hr
  | a :: l, re, r, hr, hc, ha, x, hx => by
    rw [List.foldl_cons]
    rcases List.mem_cons.mp hr with rfl | hr
    · have h1 : x ∈ uStep lens c re r := by
        unfold uStep
        rw [if_pos ⟨hc, ha⟩]
        by_cases h : x ∈ re
        · exact List.mem_append_left _ h
        · exact List.mem_append_right _ (List.mem_filter.mpr ⟨sortedNames_mem.mpr hx, by simp [h]⟩)
      exact (uFold_pre (lens := lens) (c := c) (rules := l) (re := uStep lens c re r)).subset h1
    · exact uFold_closed r hr hc ha x hx
theorem ureach_ok : ∀ (n : Nat) (re : List Nat) (i : Nat), NmOk re → 27 ≤ n + i → (∀ j c, j < i → re[j]? = some c → ClosedAt rules lens re c) → re <+: ureach rules lens n re i ∧ NmOk (ureach rules lens n re i) ∧ ∀ c ∈ ureach rules lens n re i, ClosedAt rules lens (ureach rules lens n re i) c
  | 0, re, i, hn, hi, hc => by
    refine ⟨List.prefix_refl _, hn, fun c hm => ?_⟩
    obtain ⟨j, hj⟩ := List.mem_iff_getElem?.mp hm
    have h1 := hn.few
    have h2 : j < re.length := (List.getElem?_eq_some_iff.mp hj).1
    exact hc j c (by omega) hj
  | n + 1, re, i, hn, hi, hc => by
    cases q : re[i]? with
    | none =>
      rw [ureach_none q]
      refine ⟨List.prefix_refl _, hn, fun c hm => ?_⟩
      obtain ⟨j, hj⟩ := List.mem_iff_getElem?.mp hm
      have h2 := (List.getElem?_eq_some_iff.mp hj).1
      have h3 := List.getElem?_eq_none_iff.mp q
      exact hc j c (by omega) hj
    | some c =>
      rw [ureach_some q]
      have hpre := uFold_pre (lens := lens) (c := c) (rules := rules) (re := re)
      have hlt := (List.getElem?_eq_some_iff.mp q).1
      have ih := ureach_ok n (rules.foldl (uStep lens c) re) (i + 1) (uFold_ok hn) (by omega) (fun j d hj hd r hr hrd ha x hx => by
        have hjl : j < re.length := by omega
        have hd' : re[j]? = some d := by
          obtain ⟨t, ht⟩ := hpre
          rw [← ht, List.getElem?_append_left hjl] at hd
          exact hd
        by_cases e : j = i
        · subst e
          rw [q] at hd'
          cases hd'
          exact uFold_closed r hr hrd ha x hx
        · exact hpre.subset (hc j d (by omega) hd' r hr hrd ha x hx))
      exact ⟨hpre.trans ih.1, ih.2⟩
theorem reached_ok {root : Nat} (hroot : nam root = true) : root ∈ reached rules root lens ∧ NmOk (reached rules root lens) ∧ ∀ c ∈ reached rules root lens, ClosedAt rules lens (reached rules root lens) c := by
  have h := ureach_ok (rules := rules) (lens := lens) 27 [root] 0 ⟨by simp, by simpa using hroot⟩ (by omega) (fun j c hj => absurd hj (Nat.not_lt_zero _))
  exact ⟨h.1.subset (by simp), h.2.1, h.2.2⟩
end
end
theorem ldStep_quiet {rules : List Rule} {lens : List (Nat × Nat)} (st : Best × Bool) (n : Nat) (h : (ldStep rules lens st n).2 = false) : ldStep rules lens st n = st := by
  unfold ldStep at h ⊢
  split
  · rfl
  · rename_i r e
    rw [e] at h
    dsimp only at h
    split
    · rename_i h1
      rw [if_pos h1] at h
      split
      · rename_i h2
        rw [if_pos h2] at h
        cases h
      · rfl
    · rfl
/-! ### a grammar all of whose useful rules are short -/
structure PreOk (g : Gram) : Prop where
  few : 1 ≤ g.rules.length ∧ g.rules.length ≤ 16
  rok : RulesOk g.rules
  here : g.root ∈ g.rules.map (·.1)
  ends : (aGet g.lens g.root).isSome = true
  short : ∀ n ∈ g.useful, ∀ r, g.rules[n]? = some r → (aGet g.lens r.1).getD 0 ≤ 24
namespace PreOk
variable {g : Gram}
theorem nroot (h : PreOk g) : nam g.root = true := by
  obtain ⟨r, hr, e⟩ := List.mem_map.mp h.here
  rw [← e]
  exact (h.rok r hr).1
theorem rule (h : PreOk g) {n : Nat} (hn : n ∈ g.useful) : ∃ r, g.rules[n]? = some r ∧ RuOk g.lens r := by
  obtain ⟨r, h1, h2⟩ := useful_mem.mp hn
  have hm := List.mem_of_getElem? h1
  obtain ⟨a, b, c⟩ := h.rok r hm
  unfold usefulAt at h2
  rw [Bool.and_eq_true] at h2
  obtain ⟨x, hx, _⟩ := ll_fix h.rok hm h2.2
  exact ⟨r, h1, a, b, c, h2.2, by show (aGet (leastLengths g.rules) r.1).isSome = true; rw [hx]; rfl, h.short n hn r h1⟩
theorem bestOk (h : PreOk g) : LDok g.lens g.best ∧ (ldRound g.rules g.lens g.useful g.best).2 = false := by
  refine rounds_fix (f := ldRound g.rules g.lens g.useful) (LDok g.lens) muD (fun m hm => ?_) ldFuel [] (LDok.nil _) (Nat.lt_succ_self _)
  obtain ⟨h1, h2, h3, h4⟩ := ldFold (rules := g.rules) (lens := g.lens) (numbers := g.useful) (m, false) (fun n hn => h.rule hn) hm
  exact ⟨h1, h3 rfl, fun q => by rw [show ldRound g.rules g.lens g.useful m = _ from h4 q]⟩
/-- a rule of a reached name whose names have least derivations, and whose total is its name's least length: its name has one, and none is better -/
theorem bestFix (h : PreOk g) {n : Nat} {r : Rule} (hr : g.rules[n]? = some r) (hc : r.1 ∈ reached g.rules g.root g.lens) (hd : ldDue g.lens g.best r = true) : ldBetter g.best r = false := by
  have h2 := h.bestOk.2
  have hal : allIn g.lens r.2 = true := by
    have hm := List.mem_of_getElem? hr
    unfold ldDue at hd
    rw [Bool.and_eq_true] at hd
    refine List.all_eq_true.mpr fun c hcm => ?_
    have := List.all_eq_true.mp hd.2 c hcm
    refine h.bestOk.1.hl c ?_
    exact Decidable.byContradiction fun z => by rw [aGet_none.mpr z] at this; cases this
  have hn : n ∈ g.useful := useful_mem.mpr ⟨r, hr, by unfold usefulAt; rw [decide_eq_true hc, hal]; rfl⟩
  have := (fold_quiet ldStep_quiet h2).2 n hn
  cases hb : ldBetter g.best r with
  | false => rfl
  | true =>
    rw [ldStep_yes (st := (g.best, false)) hr hd hb] at this
    have := congrArg Prod.snd this
    cases this
/-- every reached name with a length has a least derivation -/
theorem best_all (h : PreOk g) : ∀ {b w : List Nat}, DerW g.rules b w → (∀ c ∈ namesIn b, c ∈ reached g.rules g.root g.lens) → total g.lens b = w.length → allIn g.best b = true := by
  intro b w hd
  induction hd with
  | nil => intro _ _; rfl
  | sign hc hb ih =>
    rename_i c b w
    intro hre ht
    refine allIn_cons.mpr ⟨fun z => (by rw [hc] at z; cases z), ih (fun x hx => hre x ?_) ?_⟩
    · unfold namesIn at hx ⊢
      rw [List.filter_cons, if_neg (by rw [hc]; exact Bool.false_ne_true)]
      exact hx
    · rw [total_cons, if_neg (by rw [hc]; exact Bool.false_ne_true), List.length_cons] at ht
      omega
  | name hm hn h1 h2 ih1 ih2 =>
    rename_i r b w1 w2
    intro hre ht
    have l1 := ll_least h.rok h1
    have l2 := ll_least h.rok h2
    obtain ⟨x, hx, hle⟩ := ll_fix h.rok hm l1.1
    rw [total_cons, if_pos hn, show aGet g.lens r.1 = some x from hx, List.length_append] at ht
    have e1 : total g.lens r.2 = w1.length := by
      have a1 := l1.2; have a2 := l2.2
      have b1 : total g.lens r.2 = total (leastLengths g.rules) r.2 := rfl
      have b2 : total g.lens b = total (leastLengths g.rules) b := rfl
      have ht' : x + total g.lens b = w1.length + w2.length := ht
      omega
    have e2 : total g.lens b = w2.length := by
      have a1 := l1.2; have a2 := l2.2
      have b1 : total g.lens r.2 = total (leastLengths g.rules) r.2 := rfl
      have b2 : total g.lens b = total (leastLengths g.rules) b := rfl
      have ht' : x + total g.lens b = w1.length + w2.length := ht
      omega
    have ex : total g.lens r.2 = x := by
      have a1 := l1.2; have a2 := l2.2
      have b1 : total g.lens r.2 = total (leastLengths g.rules) r.2 := rfl
      have ht' : x + total g.lens b = w1.length + w2.length := ht
      omega
    have hrc : r.1 ∈ reached g.rules g.root g.lens := hre r.1 (by unfold namesIn; rw [List.filter_cons, if_pos hn]; exact List.mem_cons_self)
    have hcl := (reached_ok (rules := g.rules) (lens := g.lens) h.nroot).2.2 r.1 hrc r hm rfl l1.1
    have a1 := ih1 hcl e1
    have a2 := ih2 (fun c hc => hre c (by unfold namesIn at hc ⊢; rw [List.filter_cons, if_pos hn]; exact List.mem_cons_of_mem _ hc)) e2
    obtain ⟨i, hi⟩ := List.mem_iff_getElem?.mp hm
    have hdue : ldDue g.lens g.best r = true := by
      unfold ldDue
      rw [a1, ex, show aGet g.lens r.1 = some x from hx]
      simp
    have hb := h.bestFix hi hrc hdue
    refine allIn_cons.mpr ⟨fun _ => ?_, a2⟩
    unfold ldBetter at hb
    cases q : aGet g.best r.1 with
    | none => rw [q] at hb; cases hb
    | some t => rfl
theorem root_best (h : PreOk g) : (aGet g.best g.root).isSome = true := by
  cases q : aGet g.lens g.root with
  | none => have := h.ends; rw [q] at this; cases this
  | some x =>
    obtain ⟨w, d, e⟩ := ll_sound h.rok g.root x q
    have hre := (reached_ok (rules := g.rules) (lens := g.lens) h.nroot).1
    have := h.best_all d (fun c hc => by
      unfold namesIn at hc
      have := (List.mem_filter.mp hc).1
      simp at this
      subst this
      exact hre) (by rw [total_cons, if_pos h.nroot, q, e]; show x + 0 = x; omega)
    exact (allIn_cons.mp this).1 h.nroot
theorem ok (h : PreOk g) (hfast : ∀ c t, aGet g.best c = some t → t.a ≤ 100) : g.Ok := by
  refine ⟨h.few, h.rok, h.here, h.ends, ?_, h.short, ?_, hfast⟩
  · cases q : aGet g.lens g.root with
    | none => have := h.ends; rw [q] at this; cases this
    | some x =>
      obtain ⟨w, d, e⟩ := ll_sound h.rok g.root x q
      obtain ⟨c0, hc0⟩ : ∃ c0, c0 = g.root := ⟨_, rfl⟩
      rw [← hc0] at d
      cases d with
      | sign hc _ => rw [hc0, h.nroot] at hc; cases hc
      | name hm hn h1 h2 =>
        rename_i r w1 w2
        obtain ⟨i, hi⟩ := List.mem_iff_getElem?.mp hm
        have hre := (reached_ok (rules := g.rules) (lens := g.lens) h.nroot).1
        intro he
        have : i ∈ g.useful := useful_mem.mpr ⟨r, hi, by unfold usefulAt; rw [hc0, decide_eq_true hre, show allIn g.lens r.2 = true from (ll_least h.rok h1).1]; rfl⟩
        rw [he] at this
        cases this
  · intro he
    have := h.root_best
    rw [he] at this
    cases this
end PreOk
end SF
namespace SF
def lawStep (st : List Nat × Int × Nat) (k : Nat) : List Nat × Int × Nat :=
  if 0 < st.2.1 then (st.1 ++ [(st.2.1 % 100).toNat], st.2.1 / 100, (st.2.2 * 137 + 71 + k) % 10007)
  else (st.1 ++ [(st.2.2 * 137 + 71 + k) % 10007 / 7 % 100], st.2.1, (st.2.2 * 137 + 71 + k) % 10007)
def lawSt (c : Int) (n : Nat) : List Nat × Int × Nat := (List.range n).foldl lawStep ([], c - 10 ^ 18, (c % 10007).toNat)
def draws (c : Int) (n : Nat) : List Nat := (lawSt c n).1
theorem lawSt_succ (c : Int) (n : Nat) : lawSt c (n + 1) = lawStep (lawSt c n) n := by unfold lawSt; rw [List.range_succ, List.foldl_append]; rfl
theorem draws_len (c : Int) : ∀ n, (draws c n).length = n
  | 0 => rfl
  | n + 1 => by
    have ih := draws_len c n
    unfold draws at ih ⊢
    rw [lawSt_succ]
    unfold lawStep
    split <;> simp [ih]
theorem lawSt_mixed (c : Int) (n : Nat) : (lawSt c n).2.2 < 10007 := by
  cases n with
  | zero =>
    show (c % 10007).toNat < 10007
    omega
  | succ n =>
    rw [lawSt_succ]
    unfold lawStep
    split <;> exact Nat.mod_lt _ (by decide)
theorem draws_lt (c : Int) : ∀ n, ∀ x ∈ draws c n, x < 100
  | 0, x, hx => by cases hx
  | n + 1, x, hx => by
    have ih := draws_lt c n
    unfold draws at ih hx
    rw [lawSt_succ] at hx
    unfold lawStep at hx
    split at hx
    · rcases List.mem_append.mp hx with h | h
      · exact ih x h
      · simp at h
        subst h
        omega
    · rcases List.mem_append.mp hx with h | h
      · exact ih x h
      · simp at h
        subst h
        omega
/-- the i-th draw -/
def dg (d : List Nat) (i : Nat) : Nat := d[i]?.getD 0
def lawNames (d : List Nat) : List Nat := (List.range (1 + dg d 2 % 3)).map fun k => 65 + (dg d 0 + k * (1 + dg d 1 % 12)) % 26
def lawSigns (d : List Nat) : List Nat := (List.range (1 + dg d 5 % 3)).map fun k => dg SIGNSl ((dg d 3 + k * (1 + dg d 4 % 17)) % 52)
/-- the place n, counted round -/
def rd (l : List Nat) (n : Nat) : Nat := dg l (n % l.length)
def lawKnown (n : Nat) (names signs : List Nat) : List Rule :=
  let s := dg names 0; let a := rd names 1; let b := rd names 2; let x := dg signs 0; let y := rd signs 1; let z := rd signs 2
  ([[(s, [x, s, y])], [(s, [x, s, y, s])], [(s, [a, z, s]), (s, [a]), (a, [x, s, y])], [(s, [x, s, x]), (s, [y, s, y])], [(s, [a, b]), (a, [x, a]), (b, [b, y])], [(s, [s, s]), (s, [x, s, y])],
    [(s, [x, a]), (a, [y, s]), (a, [z, b]), (b, [x, b])], [(s, [a, x, b]), (a, [b, a]), (b, [y])]] : List (List Rule))[n % 8]?.getD []
def insAt {α : Type} (l : List α) (i : Nat) (x : α) : List α := l.take i ++ [x] ++ l.drop i
def lawBody (d : List Nat) (parts : List Nat) (at_ : Nat) : List Nat := (List.range (dg d (at_ + 1) % 4)).map fun j => rd parts (dg d (at_ + 2 + j))
def lawRules0 (d names signs : List Nat) : List Rule :=
  if dg d 6 % 3 = 0 then lawKnown (dg d 7) names signs
  else (List.range (dg d 6 / 3 % 6)).map fun k => (rd names (dg d (8 + 5 * k)), lawBody d (names ++ signs) (8 + 5 * k))
def lawEnding (d signs : List Nat) (at_ : Nat) : List Nat :=
  ([[], [rd signs (dg d (at_ + 1))], [rd signs (dg d (at_ + 1)), rd signs (dg d (at_ + 1) / 10)], [rd signs (dg d (at_ + 1))]] : List (List Nat))[dg d at_ % 4]?.getD []
def lawEnd (d names signs : List Nat) (rules : List Rule) (k : Nat) : List Rule :=
  if k = 0 ∨ dg d (33 + 3 * k) % 4 < 3 then insAt rules (dg d (33 + 3 * k + 2) % (rules.length + 1)) (dg names k, lawEnding d signs (33 + 3 * k)) else rules
def lawGrammar (d : List Nat) : List Rule := (List.range (lawNames d).length).foldl (lawEnd d (lawNames d) (lawSigns d)) (lawRules0 d (lawNames d) (lawSigns d))
/-! ### what holds of them -/
theorem lawNames_len (d : List Nat) : 1 ≤ (lawNames d).length ∧ (lawNames d).length ≤ 3 := by
  unfold lawNames
  rw [List.length_map, List.length_range]
  omega
theorem lawSigns_len (d : List Nat) : 1 ≤ (lawSigns d).length ∧ (lawSigns d).length ≤ 3 := by
  unfold lawSigns
  rw [List.length_map, List.length_range]
  omega
theorem lawNames_nam (d : List Nat) : ∀ c ∈ lawNames d, nam c = true := fun c hc => by
  obtain ⟨k, _, rfl⟩ := List.mem_map.mp hc
  rw [nam_iff]
  omega
theorem dg_mem {l : List Nat} {i : Nat} (h : i < l.length) : dg l i ∈ l := by
  unfold dg
  rw [List.getElem?_eq_getElem h]
  exact List.getElem_mem h
theorem rd_mem {l : List Nat} {n : Nat} (h : 1 ≤ l.length) : rd l n ∈ l := dg_mem (Nat.mod_lt _ h)
theorem lawSigns_sgn (d : List Nat) : ∀ c ∈ lawSigns d, sgn c = true := fun c hc => by
  obtain ⟨k, _, rfl⟩ := List.mem_map.mp hc
  have : dg SIGNSl ((dg d 3 + k * (1 + dg d 4 % 17)) % 52) ∈ SIGNSl := dg_mem (by show _ < 52; omega)
  unfold sgn
  exact decide_eq_true this
/-- what a drawn list of rules keeps -/
structure RuD (names : List Nat) (r : Rule) : Prop where
  hd : r.1 ∈ names
  bd : ∀ c ∈ r.2, sgn c = true ∨ c ∈ names
  few : r.2.length ≤ 4
  less : r.1 ≠ dg names 0 → r.2.length ≤ 3
structure Drawn (names : List Nat) (rules : List Rule) : Prop where
  ru : ∀ r ∈ rules, RuD names r
  en : ∃ r ∈ rules, r.1 = dg names 0 ∧ r.2.length ≤ 2 ∧ ∀ c ∈ r.2, sgn c = true
section
variable {names signs : List Nat} (hn : 1 ≤ names.length) (hs : 1 ≤ signs.length) (hsg : ∀ c ∈ signs, sgn c = true)
include hn hs hsg
theorem known_ok (n : Nat) : ∀ r ∈ lawKnown n names signs, RuD names r := by
  have m0 : dg names 0 ∈ names := dg_mem hn
  have m1 : rd names 1 ∈ names := rd_mem hn
  have m2 : rd names 2 ∈ names := rd_mem hn
  have x0 : sgn (dg signs 0) = true := hsg _ (dg_mem hs)
  have x1 : sgn (rd signs 1) = true := hsg _ (rd_mem hs)
  have x2 : sgn (rd signs 2) = true := hsg _ (rd_mem hs)
  have h8 : n % 8 < 8 := Nat.mod_lt _ (by decide)
  unfold lawKnown
  dsimp only
  generalize n % 8 = i at h8
  generalize dg signs 0 = x at *
  generalize rd signs 1 = y at *
  generalize rd signs 2 = z at *
  generalize rd names 1 = a at *
  generalize rd names 2 = b at *
  have hcase : i = 0 ∨ i = 1 ∨ i = 2 ∨ i = 3 ∨ i = 4 ∨ i = 5 ∨ i = 6 ∨ i = 7 := by omega
  intro r hr
  rcases hcase with rfl | rfl | rfl | rfl | rfl | rfl | rfl | rfl
  all_goals
    simp only [List.getElem?_cons_zero, List.getElem?_cons_succ, Option.getD_some, List.mem_cons, List.not_mem_nil, or_false] at hr
  all_goals
    (repeat' (rcases hr with hr | hr))
  all_goals
    (try subst hr
     refine ⟨by assumption, fun c hc => ?_, by simp, fun hne => by first | (exact absurd rfl hne) | simp⟩)
  all_goals
    simp only [List.mem_cons, List.not_mem_nil, or_false] at hc
  all_goals
    (repeat' (rcases hc with hc | hc))
  all_goals
    (try subst hc
     first | (exact Or.inr (by assumption)) | (exact Or.inl (by assumption)))
theorem rules0_ok (d : List Nat) : ∀ r ∈ lawRules0 d names signs, RuD names r := by
  unfold lawRules0
  split
  · exact known_ok hn hs hsg _
  · intro r hr
    obtain ⟨k, _, rfl⟩ := List.mem_map.mp hr
    have hlen : (lawBody d (names ++ signs) (8 + 5 * k)).length ≤ 3 := by
      unfold lawBody
      rw [List.length_map, List.length_range]
      omega
    refine ⟨rd_mem hn, fun c hc => ?_, by show (lawBody _ _ _).length ≤ 4; omega, fun _ => hlen⟩
    obtain ⟨j, _, rfl⟩ := List.mem_map.mp hc
    have hm : rd (names ++ signs) (dg d (8 + 5 * k + 2 + j)) ∈ names ++ signs := rd_mem (by rw [List.length_append]; omega)
    rcases List.mem_append.mp hm with h | h
    · exact .inr h
    · exact .inl (hsg _ h)
theorem rules0_len (d : List Nat) : (lawRules0 d names signs).length ≤ 5 := by
  unfold lawRules0
  split
  · unfold lawKnown
    dsimp only
    have h8 : dg d 7 % 8 < 8 := Nat.mod_lt _ (by decide)
    generalize dg d 7 % 8 = i at h8
    have hcase : i = 0 ∨ i = 1 ∨ i = 2 ∨ i = 3 ∨ i = 4 ∨ i = 5 ∨ i = 6 ∨ i = 7 := by omega
    rcases hcase with rfl | rfl | rfl | rfl | rfl | rfl | rfl | rfl <;> simp
  · rw [List.length_map, List.length_range]
    omega
theorem ending_ok (d : List Nat) (at_ : Nat) : (lawEnding d signs at_).length ≤ 2 ∧ ∀ c ∈ lawEnding d signs at_, sgn c = true := by
  have x1 : sgn (rd signs (dg d (at_ + 1))) = true := hsg _ (rd_mem hs)
  have x2 : sgn (rd signs (dg d (at_ + 1) / 10)) = true := hsg _ (rd_mem hs)
  unfold lawEnding
  have h4 : dg d at_ % 4 < 4 := Nat.mod_lt _ (by decide)
  generalize dg d at_ % 4 = i at h4
  have hcase : i = 0 ∨ i = 1 ∨ i = 2 ∨ i = 3 := by omega
  rcases hcase with rfl | rfl | rfl | rfl
  · exact ⟨by simp, fun c hc => by simp at hc⟩
  · exact ⟨by simp, fun c hc => by simp at hc; subst hc; exact x1⟩
  · refine ⟨by simp, fun c hc => ?_⟩
    simp at hc
    rcases hc with rfl | rfl
    · exact x1
    · exact x2
  · exact ⟨by simp, fun c hc => by simp at hc; subst hc; exact x1⟩
end
theorem insAt_mem {α : Type} {l : List α} {i : Nat} {x y : α} : y ∈ insAt l i x ↔ y = x ∨ y ∈ l := by
  unfold insAt
  have h : y ∈ l ↔ y ∈ l.take i ∨ y ∈ l.drop i := by rw [← List.mem_append, List.take_append_drop]
  rw [List.mem_append, List.mem_append, List.mem_singleton, h]
  constructor
  · rintro ((h | h) | h)
    · exact .inr (.inl h)
    · exact .inl h
    · exact .inr (.inr h)
  · rintro (h | h | h)
    · exact .inl (.inr h)
    · exact .inl (.inl h)
    · exact .inr h
theorem insAt_len {α : Type} {l : List α} {i : Nat} {x : α} (h : i ≤ l.length) : (insAt l i x).length = l.length + 1 := by
  unfold insAt
  simp
  omega
/-- the endings of the first k names -/
theorem ends_ok (d names signs : List Nat) (hn : 1 ≤ names.length) (hs : 1 ≤ signs.length) (hsg : ∀ c ∈ signs, sgn c = true) : ∀ k, k ≤ names.length →
    (∀ r ∈ (List.range k).foldl (lawEnd d names signs) (lawRules0 d names signs), RuD names r) ∧ ((List.range k).foldl (lawEnd d names signs) (lawRules0 d names signs)).length ≤ 5 + k ∧
    (1 ≤ k → ∃ r ∈ (List.range k).foldl (lawEnd d names signs) (lawRules0 d names signs), r.1 = dg names 0 ∧ r.2.length ≤ 2 ∧ ∀ c ∈ r.2, sgn c = true)
  | 0, _ => ⟨rules0_ok hn hs hsg d, rules0_len hn hs hsg d, fun h => absurd h (by decide)⟩
  | k + 1, hk => by
    obtain ⟨h1, h2, h3⟩ := ends_ok d names signs hn hs hsg k (by omega)
    rw [List.range_succ, List.foldl_append]
    show (∀ r ∈ lawEnd d names signs _ k, RuD names r) ∧ (lawEnd d names signs _ k).length ≤ _ ∧ (_ → ∃ r ∈ lawEnd d names signs _ k, _)
    generalize (List.range k).foldl (lawEnd d names signs) (lawRules0 d names signs) = rules at h1 h2 h3
    obtain ⟨e1, e2⟩ := ending_ok hn hs hsg d (33 + 3 * k)
    unfold lawEnd
    split
    · rename_i hc
      refine ⟨fun r hr => ?_, ?_, fun _ => ?_⟩
      · rcases insAt_mem.mp hr with rfl | hr
        · exact ⟨dg_mem (by omega), fun c hc => .inl (e2 c hc), by show (lawEnding _ _ _).length ≤ 4; omega, fun _ => by show (lawEnding _ _ _).length ≤ 3; omega⟩
        · exact h1 r hr
      · rw [insAt_len (by have := Nat.mod_lt (dg d (33 + 3 * k + 2)) (show rules.length + 1 > 0 by omega); omega)]
        omega
      · by_cases h0 : k = 0
        · subst h0
          exact ⟨_, insAt_mem.mpr (.inl rfl), rfl, e1, e2⟩
        · obtain ⟨r, hr, hh⟩ := h3 (by omega)
          exact ⟨r, insAt_mem.mpr (.inr hr), hh⟩
    · rename_i hc
      refine ⟨h1, by omega, fun _ => ?_⟩
      by_cases h0 : k = 0
      · exact absurd (.inl h0) hc
      · exact h3 (by omega)
theorem lawGrammar_ok (d : List Nat) : Drawn (lawNames d) (lawGrammar d) ∧ (lawGrammar d).length ≤ 8 := by
  obtain ⟨h1, h2⟩ := lawNames_len d
  obtain ⟨h3, h4⟩ := lawSigns_len d
  obtain ⟨a, b, c⟩ := ends_ok d (lawNames d) (lawSigns d) h1 h3 (lawSigns_sgn d) _ (Nat.le_refl _)
  refine ⟨⟨a, c h1⟩, ?_⟩
  have b' : (lawGrammar d).length ≤ 5 + (lawNames d).length := b
  omega
end SF
namespace SF
theorem total_bound {lens : List (Nat × Nat)} {B : Nat} (h1 : 1 ≤ B) : ∀ {b : List Nat}, (∀ c ∈ namesIn b, (aGet lens c).getD 0 ≤ B) → total lens b ≤ b.length * B
  | [], _ => by simp [total, namesIn]
  | c :: b, h => by
    have hsub : ∀ x ∈ namesIn b, (aGet lens x).getD 0 ≤ B := fun x hx => h x (by
      unfold namesIn at hx ⊢
      rw [List.filter_cons]
      split
      · exact List.mem_cons_of_mem _ hx
      · exact hx)
    have ih := total_bound h1 hsub
    rw [total_cons, List.length_cons, Nat.succ_mul]
    split
    · rename_i hn
      have := h c (by unfold namesIn; rw [List.filter_cons, if_pos hn]; exact List.mem_cons_self)
      omega
    · omega
/-- the keys stand in an order in which each one has a rule of names ahead of it -/
def Ranked (rules : List Rule) (m : List (Nat × Nat)) : Prop := ∀ i c, (m.map (·.1))[i]? = some c → ∃ r ∈ rules, r.1 = c ∧ ∀ x ∈ namesIn r.2, x ∈ (m.map (·.1)).take i
theorem ll_ranked (rules : List Rule) : Ranked rules (leastLengths rules) := by
  have key : ∀ (l : List Rule) (st : List (Nat × Nat) × Bool), (∀ r ∈ l, r ∈ rules) → Ranked rules st.1 → Ranked rules (l.foldl llStep st).1 := by
    intro l
    induction l with
    | nil => intro st _ h; exact h
    | cons r l ih =>
      intro st hl h
      rw [List.foldl_cons]
      refine ih _ (fun x hx => hl x (List.mem_cons_of_mem _ hx)) ?_
      unfold llStep
      split
      · rename_i ha
        split
        · intro i c hi
          show ∃ q ∈ rules, q.1 = c ∧ ∀ x ∈ namesIn q.2, x ∈ ((aPut st.1 r.1 (total st.1 r.2)).map (·.1)).take i
          have hi' : ((aPut st.1 r.1 (total st.1 r.2)).map (·.1))[i]? = some c := hi
          rw [aPut_keys] at hi' ⊢
          split at hi'
          · rename_i hs
            rw [if_pos hs]
            exact h i c hi'
          · rename_i hs
            rw [if_neg hs]
            by_cases hlt : i < (st.1.map (·.1)).length
            · rw [List.getElem?_append_left hlt] at hi'
              rw [List.take_append_of_le_length (by omega)]
              exact h i c hi'
            · have hle := (List.getElem?_eq_some_iff.mp hi').1
              rw [List.length_append] at hle
              have hie : i = (st.1.map (·.1)).length := by simp at hle hlt ⊢; omega
              subst hie
              rw [List.getElem?_append_right (Nat.le_refl _)] at hi'
              simp at hi'
              subst hi'
              refine ⟨r, hl r List.mem_cons_self, rfl, fun x hx => ?_⟩
              rw [List.take_append_of_le_length (Nat.le_refl _), List.take_length]
              have := List.all_eq_true.mp ha x hx
              exact Decidable.byContradiction fun z => by rw [aGet_none.mpr z] at this; cases this
        · exact h
      · exact h
  have key2 : ∀ (n : Nat) (m : List (Nat × Nat)), Ranked rules m → Ranked rules (rounds (llRound rules) n m) := by
    intro n
    induction n with
    | zero => intro m h; exact h
    | succ n ih =>
      intro m h
      have h2 : Ranked rules (llRound rules m).1 := key rules (m, false) (fun _ h => h) h
      unfold rounds
      split
      · exact ih _ h2
      · exact h2
  exact key2 _ _ (fun i c h => by simp at h)
section
variable {names : List Nat} {rules : List Rule}
theorem Drawn.rok (h : Drawn names rules) (hn : ∀ c ∈ names, nam c = true) : RulesOk rules := fun r hr => by
  have q := h.ru r hr
  refine ⟨hn _ q.hd, q.few, fun c hc => ?_⟩
  rw [Bool.or_eq_true]
  rcases q.bd c hc with z | z
  · exact .inl z
  · exact .inr (hn c z)
theorem sgn_not_nam {c : Nat} (h : sgn c = true) : nam c = false := by
  have : ∀ x ∈ SIGNSl, nam x = false := by decide
  exact this c (by simpa [sgn] using h)
theorem no_names {b : List Nat} (h : ∀ c ∈ b, sgn c = true) : namesIn b = [] := by
  unfold namesIn
  rw [List.filter_eq_nil_iff]
  intro c hc
  rw [sgn_not_nam (h c hc)]
  exact Bool.false_ne_true
theorem Drawn.bound (h : Drawn names rules) (hn : ∀ c ∈ names, nam c = true) : (∃ x, aGet (leastLengths rules) (dg names 0) = some x ∧ x ≤ 2) ∧
    ∀ i c, ((leastLengths rules).map (·.1))[i]? = some c → (aGet (leastLengths rules) c).getD 0 ≤ 2 * 3 ^ ((((leastLengths rules).map (·.1)).take (i + 1)).filter fun x => decide (x ≠ dg names 0)).length := by
  have hrok := h.rok hn
  have hroot : ∃ x, aGet (leastLengths rules) (dg names 0) = some x ∧ x ≤ 2 := by
    obtain ⟨r, hr, e1, e2, e3⟩ := h.en
    have hnn := no_names e3
    obtain ⟨x, hx, hle⟩ := ll_fix hrok hr (by unfold allIn; rw [hnn]; rfl)
    rw [e1] at hx
    refine ⟨x, hx, ?_⟩
    unfold total at hle
    rw [hnn] at hle
    simp at hle
    omega
  refine ⟨hroot, ?_⟩
  have hrk := ll_ranked rules
  intro i
  induction i using Nat.strongRecOn with
  | _ i ih =>
    intro c hc
    by_cases e : c = dg names 0
    · subst e
      obtain ⟨x, hx, hle⟩ := hroot
      rw [hx]
      have := Nat.pow_pos (n := ((((leastLengths rules).map (·.1)).take (i + 1)).filter fun x => decide (x ≠ dg names 0)).length) (show 0 < 3 by decide)
      show x ≤ _
      omega
    · obtain ⟨r, hr, e1, e2⟩ := hrk i c hc
      have hal : allIn (leastLengths rules) r.2 = true := List.all_eq_true.mpr fun x hx => by
        have := List.mem_of_mem_take (e2 x hx)
        cases q : aGet (leastLengths rules) x with
        | none => exact absurd this (aGet_none.mp q)
        | some y => rfl
      obtain ⟨x, hx, hle⟩ := ll_fix hrok hr hal
      rw [e1] at hx
      rw [hx]
      have h3 : r.2.length ≤ 3 := (h.ru r hr).less (by rw [e1]; exact e)
      have hstep : ((((leastLengths rules).map (·.1)).take (i + 1)).filter fun x => decide (x ≠ dg names 0)).length = ((((leastLengths rules).map (·.1)).take i).filter fun x => decide (x ≠ dg names 0)).length + 1 := by
        have : ((leastLengths rules).map (·.1)).take (i + 1) = ((leastLengths rules).map (·.1)).take i ++ [c] := by
          rw [List.take_add_one, hc]
          rfl
        rw [this, List.filter_append, List.length_append]
        simp [e]
      rw [hstep, Nat.pow_succ]
      have hB := total_bound (lens := leastLengths rules) (B := 2 * 3 ^ ((((leastLengths rules).map (·.1)).take i).filter fun x => decide (x ≠ dg names 0)).length) (by
        have := Nat.pow_pos (n := ((((leastLengths rules).map (·.1)).take i).filter fun x => decide (x ≠ dg names 0)).length) (show 0 < 3 by decide)
        omega) (b := r.2) (fun y hy => by
          obtain ⟨j, hj⟩ := List.mem_iff_getElem?.mp (e2 y hy)
          have hji : j < i := by
            have := (List.getElem?_eq_some_iff.mp hj).1
            rw [List.length_take] at this
            omega
          rw [List.getElem?_take, if_pos hji] at hj
          refine Nat.le_trans (ih j hji y hj) (Nat.mul_le_mul_left _ (Nat.pow_le_pow_right (by decide) ?_))
          refine List.Sublist.length_le (List.Sublist.filter _ ?_)
          exact (List.take_prefix_take_left (show j + 1 ≤ i by omega)).sublist)
      have h4 := Nat.mul_le_mul_right (2 * 3 ^ ((((leastLengths rules).map (·.1)).take i).filter fun x => decide (x ≠ dg names 0)).length) h3
      show x ≤ _
      omega
theorem Drawn.keys (h : Drawn names rules) (hn : ∀ c ∈ names, nam c = true) : ∀ c ∈ (leastLengths rules).map (·.1), c ∈ names := fun c hc => by
  obtain ⟨i, hi⟩ := List.mem_iff_getElem?.mp hc
  obtain ⟨r, hr, e, _⟩ := ll_ranked rules i c hi
  rw [← e]
  exact (h.ru r hr).hd
theorem Drawn.ok (h : Drawn names rules) (hn : ∀ c ∈ names, nam c = true) (hlen : names.length ≤ 3) (h16 : rules.length ≤ 16) : (Gram.mk rules (dg names 0)).Ok := by
  have hrok := h.rok hn
  obtain ⟨⟨x0, hx0, hle0⟩, hb⟩ := h.bound hn
  have hll := (ll_fin hrok).1
  obtain ⟨r0, hr0, e1, e2, e3⟩ := h.en
  have hroot : dg names 0 ∈ names := e1 ▸ (h.ru r0 hr0).hd
  have hshort : ∀ c, (aGet (leastLengths rules) c).getD 0 ≤ 24 := fun c => by
    cases q : aGet (leastLengths rules) c with
    | none => simp
    | some x =>
      have hc : c ∈ (leastLengths rules).map (·.1) := Decidable.byContradiction fun z => by rw [aGet_none.mpr z] at q; cases q
      obtain ⟨i, hi⟩ := List.mem_iff_getElem?.mp hc
      have := hb i c hi
      rw [q] at this
      have hcnt : ((((leastLengths rules).map (·.1)).take (i + 1)).filter fun x => decide (x ≠ dg names 0)).length ≤ 2 := by
        have h1 := nodup_le (l := (((leastLengths rules).map (·.1)).take (i + 1)).filter fun x => decide (x ≠ dg names 0)) (s := names.erase (dg names 0)) (List.Pairwise.filter _ (hll.nd.sublist (List.take_sublist _ _))) (fun y hy => by
          obtain ⟨h1, h2⟩ := List.mem_filter.mp hy
          exact (List.mem_erase_of_ne (of_decide_eq_true h2)).mpr (h.keys hn y (List.mem_of_mem_take h1)))
        rw [List.length_erase_of_mem hroot] at h1
        omega
      have h3 := Nat.pow_le_pow_right (show 0 < 3 by decide) hcnt
      show x ≤ 24
      have this' : x ≤ 2 * 3 ^ _ := this
      omega
  have pre : PreOk (Gram.mk rules (dg names 0)) := ⟨⟨List.length_pos_of_mem hr0, h16⟩, hrok, List.mem_map.mpr ⟨r0, hr0, e1⟩, by show (aGet (leastLengths rules) (dg names 0)).isSome = true; rw [hx0]; rfl, fun n _ r _ => hshort r.1⟩
  refine pre.ok fun c t ht => ?_
  have bok := pre.bestOk.1
  have h1 := bok.st c t ht
  have h2 : (Gram.mk rules (dg names 0)).best.length ≤ 3 := by
    have := nodup_le bok.nd (s := names) (fun y hy => by
      have := bok.hl y hy
      refine h.keys hn y (Decidable.byContradiction fun z => ?_)
      have e : aGet (Gram.mk rules (dg names 0)).lens y = none := aGet_none.mpr z
      rw [e] at this
      cases this)
    rw [List.length_map] at this
    omega
  have h3 := geo_mono h2
  have h4 : geo 3 = 21 := rfl
  omega
end
end SF
namespace SF
open PySem PySem.Spec PyProof.Rows L2
/-! ### expressions that make data: the objects they make are new and frozen -/
section
variable {α β : Type} {σ : L2.St} {F0 : Hp}
def Mkd (te : TE) (σ : L2.St) (r : Rl α) (x : α) (F0 : Hp) : Prop := ∀ (F H : Hp) (Q : V → Hp → Prop), Same F0 F → Same F H → (∀ v F' H', Ext F H F' H' → r F' v x → Q v H') → te σ H Q
def MkA (ta : TA) (σ : L2.St) (r : Rl α) (xs : List α) (F0 : Hp) : Prop := ∀ (F H : Hp) (Q : List V → Hp → Prop), Same F0 F → Same F H → (∀ vs F' H', Ext F H F' H' → Al r F' vs xs → Q vs H') → ta σ H Q
theorem mk_var {r : Rl α} [Mono r] {i : Nat} {v : V} {x : α} (h : σ[i]? = some (some v)) (hr : r F0 v x) : Mkd (tVar i) σ r x F0 := fun F H Q s0 s k => ⟨v, h, k v F H (Ext.refl s) (Mono.mono s0 hr)⟩
theorem mk_c {r : Rl α} [Mono r] {v : V} {x : α} (hr : r F0 v x) : Mkd (tC v) σ r x F0 := fun F H Q s0 s k => k v F H (Ext.refl s) (Mono.mono s0 hr)
theorem mk_cat {ta tb : TE} {a b : List Nat} (ha : Mkd ta σ rS a F0) (hb : Mkd tb σ rS b F0) (hl : a.length + b.length ≤ 1000) :
    Mkd (tOp (fun x y H Q => ∃ i j, x = .str i ∧ y = .str j ∧ i.length + j.length ≤ sizeLine ∧ Q (.str (i ++ j)) H) ta tb) σ rS (a ++ b) F0 := fun F H Q s0 s k =>
  ha F H _ s0 s fun v F1 H1 e1 h1 => hb F1 H1 _ (s0.trans e1.ff) e1.fh fun u F2 H2 e2 h2 => by
    have h1 : v = .str (S a) := h1
    have h2 : u = .str (S b) := h2
    subst h1 h2
    exact ⟨_, _, rfl, rfl, by rw [S_len, S_len, sl64]; omega, by rw [S_app]; exact k _ F2 H2 (e1.trans e2) rfl⟩
theorem mka_nil {r : Rl α} : MkA tNil σ r [] F0 := fun F H Q _ s k => k [] F H (Ext.refl s) .nil
theorem mka_cons {r : Rl α} [Mono r] {te : TE} {ta : TA} {x : α} {xs : List α} (h : Mkd te σ r x F0) (t : MkA ta σ r xs F0) : MkA (tCons te ta) σ r (x :: xs) F0 := fun F H Q s0 s k =>
  h F H _ s0 s fun v F1 H1 e1 h1 => t F1 H1 _ (s0.trans e1.ff) e1.fh fun vs F2 H2 e2 h2 => k (v :: vs) F2 H2 (e1.trans e2) (.cons (Mono.mono e2.ff h1) h2)
theorem mk_tup {r : Rl α} {t : Rl β} [Mono r] [Mono t] {ta tb : TE} {x : α} {y : β} (ha : Mkd ta σ r x F0) (hb : Mkd tb σ t y F0) : Mkd (tTup (tCons ta (tCons tb tNil))) σ (rP r t) (x, y) F0 := fun F H Q s0 s k =>
  ha F H _ s0 s fun v F1 H1 e1 h1 => hb F1 H1 _ (s0.trans e1.ff) e1.fh fun u F2 H2 e2 h2 =>
    ⟨by show 2 ≤ sizeLine; rw [sl64]; omega, fun p hp => by
      have e3 := (e1.trans e2).newF hp (o := .tup [v, u])
      have e23 := (Ext.refl e2.fh).newF hp (o := .tup [v, u])
      exact k (.ref p) _ _ e3 ⟨p, v, u, rfl, upd_same, Mono.mono (e2.ff.trans e23.ff) h1, Mono.mono e23.ff h2⟩⟩
theorem mk_lst {r : Rl α} [Mono r] {ta : TA} {xs : List α} (h : MkA ta σ r xs F0) (hl : xs.length ≤ 1000) : Mkd (tLst ta) σ (rL r) xs F0 := fun F H Q s0 s k =>
  h F H _ s0 s fun vs F1 H1 e1 h1 => ⟨by rw [h1.len, sl64]; omega, fun p hp => by
    have e23 := (Ext.refl e1.fh).newF hp (o := .lst vs)
    exact k (.ref p) _ _ (e1.newF hp) ⟨p, vs, rfl, upd_same, h1.mono e23.ff⟩⟩
end
end SF
namespace SF
open PySem PySem.Spec PyProof.Rows L2
theorem menu_mk {σ : L2.St} {F : Hp} {a b s x y z : Nat} (h3 : σ[3]? = some (some (vc s))) (h4 : σ[4]? = some (some (vc a))) (h5 : σ[5]? = some (some (vc b))) (h6 : σ[6]? = some (some (vc x))) (h7 : σ[7]? = some (some (vc y))) (h8 : σ[8]? = some (some (vc z))) : Mkd (tLst (tCons (tLst (tCons (tTup (tCons (tVar 3) (tCons (tOp (fun x y H Q => ∃ i j, x = V.str i ∧ y = V.str j ∧ i.length + j.length ≤ sizeLine ∧ Q (V.str (i ++ j)) H) (tOp (fun x y H Q => ∃ i j, x = V.str i ∧ y = V.str j ∧ i.length + j.length ≤ sizeLine ∧ Q (V.str (i ++ j)) H) (tVar 6) (tVar 3)) (tVar 7)) tNil))) tNil)) (tCons (tLst (tCons (tTup (tCons (tVar 3) (tCons (tOp (fun x y H Q => ∃ i j, x = V.str i ∧ y = V.str j ∧ i.length + j.length ≤ sizeLine ∧ Q (V.str (i ++ j)) H) (tOp (fun x y H Q => ∃ i j, x = V.str i ∧ y = V.str j ∧ i.length + j.length ≤ sizeLine ∧ Q (V.str (i ++ j)) H) (tOp (fun x y H Q => ∃ i j, x = V.str i ∧ y = V.str j ∧ i.length + j.length ≤ sizeLine ∧ Q (V.str (i ++ j)) H) (tVar 6) (tVar 3)) (tVar 7)) (tVar 3)) tNil))) tNil)) (tCons (tLst (tCons (tTup (tCons (tVar 3) (tCons (tOp (fun x y H Q => ∃ i j, x = V.str i ∧ y = V.str j ∧ i.length + j.length ≤ sizeLine ∧ Q (V.str (i ++ j)) H) (tOp (fun x y H Q => ∃ i j, x = V.str i ∧ y = V.str j ∧ i.length + j.length ≤ sizeLine ∧ Q (V.str (i ++ j)) H) (tVar 4) (tVar 8)) (tVar 3)) tNil))) (tCons (tTup (tCons (tVar 3) (tCons (tVar 4) tNil))) (tCons (tTup (tCons (tVar 4) (tCons (tOp (fun x y H Q => ∃ i j, x = V.str i ∧ y = V.str j ∧ i.length + j.length ≤ sizeLine ∧ Q (V.str (i ++ j)) H) (tOp (fun x y H Q => ∃ i j, x = V.str i ∧ y = V.str j ∧ i.length + j.length ≤ sizeLine ∧ Q (V.str (i ++ j)) H) (tVar 6) (tVar 3)) (tVar 7)) tNil))) tNil)))) (tCons (tLst (tCons (tTup (tCons (tVar 3) (tCons (tOp (fun x y H Q => ∃ i j, x = V.str i ∧ y = V.str j ∧ i.length + j.length ≤ sizeLine ∧ Q (V.str (i ++ j)) H) (tOp (fun x y H Q => ∃ i j, x = V.str i ∧ y = V.str j ∧ i.length + j.length ≤ sizeLine ∧ Q (V.str (i ++ j)) H) (tVar 6) (tVar 3)) (tVar 6)) tNil))) (tCons (tTup (tCons (tVar 3) (tCons (tOp (fun x y H Q => ∃ i j, x = V.str i ∧ y = V.str j ∧ i.length + j.length ≤ sizeLine ∧ Q (V.str (i ++ j)) H) (tOp (fun x y H Q => ∃ i j, x = V.str i ∧ y = V.str j ∧ i.length + j.length ≤ sizeLine ∧ Q (V.str (i ++ j)) H) (tVar 7) (tVar 3)) (tVar 7)) tNil))) tNil))) (tCons (tLst (tCons (tTup (tCons (tVar 3) (tCons (tOp (fun x y H Q => ∃ i j, x = V.str i ∧ y = V.str j ∧ i.length + j.length ≤ sizeLine ∧ Q (V.str (i ++ j)) H) (tVar 4) (tVar 5)) tNil))) (tCons (tTup (tCons (tVar 4) (tCons (tOp (fun x y H Q => ∃ i j, x = V.str i ∧ y = V.str j ∧ i.length + j.length ≤ sizeLine ∧ Q (V.str (i ++ j)) H) (tVar 6) (tVar 4)) tNil))) (tCons (tTup (tCons (tVar 5) (tCons (tOp (fun x y H Q => ∃ i j, x = V.str i ∧ y = V.str j ∧ i.length + j.length ≤ sizeLine ∧ Q (V.str (i ++ j)) H) (tVar 5) (tVar 7)) tNil))) tNil)))) (tCons (tLst (tCons (tTup (tCons (tVar 3) (tCons (tOp (fun x y H Q => ∃ i j, x = V.str i ∧ y = V.str j ∧ i.length + j.length ≤ sizeLine ∧ Q (V.str (i ++ j)) H) (tVar 3) (tVar 3)) tNil))) (tCons (tTup (tCons (tVar 3) (tCons (tOp (fun x y H Q => ∃ i j, x = V.str i ∧ y = V.str j ∧ i.length + j.length ≤ sizeLine ∧ Q (V.str (i ++ j)) H) (tOp (fun x y H Q => ∃ i j, x = V.str i ∧ y = V.str j ∧ i.length + j.length ≤ sizeLine ∧ Q (V.str (i ++ j)) H) (tVar 6) (tVar 3)) (tVar 7)) tNil))) tNil))) (tCons (tLst (tCons (tTup (tCons (tVar 3) (tCons (tOp (fun x y H Q => ∃ i j, x = V.str i ∧ y = V.str j ∧ i.length + j.length ≤ sizeLine ∧ Q (V.str (i ++ j)) H) (tVar 6) (tVar 4)) tNil))) (tCons (tTup (tCons (tVar 4) (tCons (tOp (fun x y H Q => ∃ i j, x = V.str i ∧ y = V.str j ∧ i.length + j.length ≤ sizeLine ∧ Q (V.str (i ++ j)) H) (tVar 7) (tVar 3)) tNil))) (tCons (tTup (tCons (tVar 4) (tCons (tOp (fun x y H Q => ∃ i j, x = V.str i ∧ y = V.str j ∧ i.length + j.length ≤ sizeLine ∧ Q (V.str (i ++ j)) H) (tVar 8) (tVar 5)) tNil))) (tCons (tTup (tCons (tVar 5) (tCons (tOp (fun x y H Q => ∃ i j, x = V.str i ∧ y = V.str j ∧ i.length + j.length ≤ sizeLine ∧ Q (V.str (i ++ j)) H) (tVar 6) (tVar 5)) tNil))) tNil))))) (tCons (tLst (tCons (tTup (tCons (tVar 3) (tCons (tOp (fun x y H Q => ∃ i j, x = V.str i ∧ y = V.str j ∧ i.length + j.length ≤ sizeLine ∧ Q (V.str (i ++ j)) H) (tOp (fun x y H Q => ∃ i j, x = V.str i ∧ y = V.str j ∧ i.length + j.length ≤ sizeLine ∧ Q (V.str (i ++ j)) H) (tVar 4) (tVar 6)) (tVar 5)) tNil))) (tCons (tTup (tCons (tVar 4) (tCons (tOp (fun x y H Q => ∃ i j, x = V.str i ∧ y = V.str j ∧ i.length + j.length ≤ sizeLine ∧ Q (V.str (i ++ j)) H) (tVar 5) (tVar 4)) tNil))) (tCons (tTup (tCons (tVar 5) (tCons (tVar 7) tNil))) tNil)))) tNil))))))))) σ (rL (rL rRule)) [[(s, (([x] ++ [s]) ++ [y]))], [(s, ((([x] ++ [s]) ++ [y]) ++ [s]))], [(s, (([a] ++ [z]) ++ [s])), (s, [a]), (a, (([x] ++ [s]) ++ [y]))], [(s, (([x] ++ [s]) ++ [x])), (s, (([y] ++ [s]) ++ [y]))], [(s, ([a] ++ [b])), (a, ([x] ++ [a])), (b, ([b] ++ [y]))], [(s, ([s] ++ [s])), (s, (([x] ++ [s]) ++ [y]))], [(s, ([x] ++ [a])), (a, ([y] ++ [s])), (a, ([z] ++ [b])), (b, ([x] ++ [b]))], [(s, (([a] ++ [x]) ++ [b])), (a, ([b] ++ [a])), (b, [y])]] F :=
  (mk_lst (mka_cons (mk_lst (mka_cons (mk_tup (r := rC) (t := rS) (mk_var (r := rC) (i := 3) (v := vc s) (x := s) h3 rfl) (mk_cat (a := ([x] ++ [s])) (b := [y]) (mk_cat (a := [x]) (b := [s]) (mk_var (r := rS) (i := 6) (v := vc x) (x := [x]) h6 rfl) (mk_var (r := rS) (i := 3) (v := vc s) (x := [s]) h3 rfl) (by simp)) (mk_var (r := rS) (i := 7) (v := vc y) (x := [y]) h7 rfl) (by simp))) mka_nil) (by simp)) (mka_cons (mk_lst (mka_cons (mk_tup (r := rC) (t := rS) (mk_var (r := rC) (i := 3) (v := vc s) (x := s) h3 rfl) (mk_cat (a := (([x] ++ [s]) ++ [y])) (b := [s]) (mk_cat (a := ([x] ++ [s])) (b := [y]) (mk_cat (a := [x]) (b := [s]) (mk_var (r := rS) (i := 6) (v := vc x) (x := [x]) h6 rfl) (mk_var (r := rS) (i := 3) (v := vc s) (x := [s]) h3 rfl) (by simp)) (mk_var (r := rS) (i := 7) (v := vc y) (x := [y]) h7 rfl) (by simp)) (mk_var (r := rS) (i := 3) (v := vc s) (x := [s]) h3 rfl) (by simp))) mka_nil) (by simp)) (mka_cons (mk_lst (mka_cons (mk_tup (r := rC) (t := rS) (mk_var (r := rC) (i := 3) (v := vc s) (x := s) h3 rfl) (mk_cat (a := ([a] ++ [z])) (b := [s]) (mk_cat (a := [a]) (b := [z]) (mk_var (r := rS) (i := 4) (v := vc a) (x := [a]) h4 rfl) (mk_var (r := rS) (i := 8) (v := vc z) (x := [z]) h8 rfl) (by simp)) (mk_var (r := rS) (i := 3) (v := vc s) (x := [s]) h3 rfl) (by simp))) (mka_cons (mk_tup (r := rC) (t := rS) (mk_var (r := rC) (i := 3) (v := vc s) (x := s) h3 rfl) (mk_var (r := rS) (i := 4) (v := vc a) (x := [a]) h4 rfl)) (mka_cons (mk_tup (r := rC) (t := rS) (mk_var (r := rC) (i := 4) (v := vc a) (x := a) h4 rfl) (mk_cat (a := ([x] ++ [s])) (b := [y]) (mk_cat (a := [x]) (b := [s]) (mk_var (r := rS) (i := 6) (v := vc x) (x := [x]) h6 rfl) (mk_var (r := rS) (i := 3) (v := vc s) (x := [s]) h3 rfl) (by simp)) (mk_var (r := rS) (i := 7) (v := vc y) (x := [y]) h7 rfl) (by simp))) mka_nil))) (by simp)) (mka_cons (mk_lst (mka_cons (mk_tup (r := rC) (t := rS) (mk_var (r := rC) (i := 3) (v := vc s) (x := s) h3 rfl) (mk_cat (a := ([x] ++ [s])) (b := [x]) (mk_cat (a := [x]) (b := [s]) (mk_var (r := rS) (i := 6) (v := vc x) (x := [x]) h6 rfl) (mk_var (r := rS) (i := 3) (v := vc s) (x := [s]) h3 rfl) (by simp)) (mk_var (r := rS) (i := 6) (v := vc x) (x := [x]) h6 rfl) (by simp))) (mka_cons (mk_tup (r := rC) (t := rS) (mk_var (r := rC) (i := 3) (v := vc s) (x := s) h3 rfl) (mk_cat (a := ([y] ++ [s])) (b := [y]) (mk_cat (a := [y]) (b := [s]) (mk_var (r := rS) (i := 7) (v := vc y) (x := [y]) h7 rfl) (mk_var (r := rS) (i := 3) (v := vc s) (x := [s]) h3 rfl) (by simp)) (mk_var (r := rS) (i := 7) (v := vc y) (x := [y]) h7 rfl) (by simp))) mka_nil)) (by simp)) (mka_cons (mk_lst (mka_cons (mk_tup (r := rC) (t := rS) (mk_var (r := rC) (i := 3) (v := vc s) (x := s) h3 rfl) (mk_cat (a := [a]) (b := [b]) (mk_var (r := rS) (i := 4) (v := vc a) (x := [a]) h4 rfl) (mk_var (r := rS) (i := 5) (v := vc b) (x := [b]) h5 rfl) (by simp))) (mka_cons (mk_tup (r := rC) (t := rS) (mk_var (r := rC) (i := 4) (v := vc a) (x := a) h4 rfl) (mk_cat (a := [x]) (b := [a]) (mk_var (r := rS) (i := 6) (v := vc x) (x := [x]) h6 rfl) (mk_var (r := rS) (i := 4) (v := vc a) (x := [a]) h4 rfl) (by simp))) (mka_cons (mk_tup (r := rC) (t := rS) (mk_var (r := rC) (i := 5) (v := vc b) (x := b) h5 rfl) (mk_cat (a := [b]) (b := [y]) (mk_var (r := rS) (i := 5) (v := vc b) (x := [b]) h5 rfl) (mk_var (r := rS) (i := 7) (v := vc y) (x := [y]) h7 rfl) (by simp))) mka_nil))) (by simp)) (mka_cons (mk_lst (mka_cons (mk_tup (r := rC) (t := rS) (mk_var (r := rC) (i := 3) (v := vc s) (x := s) h3 rfl) (mk_cat (a := [s]) (b := [s]) (mk_var (r := rS) (i := 3) (v := vc s) (x := [s]) h3 rfl) (mk_var (r := rS) (i := 3) (v := vc s) (x := [s]) h3 rfl) (by simp))) (mka_cons (mk_tup (r := rC) (t := rS) (mk_var (r := rC) (i := 3) (v := vc s) (x := s) h3 rfl) (mk_cat (a := ([x] ++ [s])) (b := [y]) (mk_cat (a := [x]) (b := [s]) (mk_var (r := rS) (i := 6) (v := vc x) (x := [x]) h6 rfl) (mk_var (r := rS) (i := 3) (v := vc s) (x := [s]) h3 rfl) (by simp)) (mk_var (r := rS) (i := 7) (v := vc y) (x := [y]) h7 rfl) (by simp))) mka_nil)) (by simp)) (mka_cons (mk_lst (mka_cons (mk_tup (r := rC) (t := rS) (mk_var (r := rC) (i := 3) (v := vc s) (x := s) h3 rfl) (mk_cat (a := [x]) (b := [a]) (mk_var (r := rS) (i := 6) (v := vc x) (x := [x]) h6 rfl) (mk_var (r := rS) (i := 4) (v := vc a) (x := [a]) h4 rfl) (by simp))) (mka_cons (mk_tup (r := rC) (t := rS) (mk_var (r := rC) (i := 4) (v := vc a) (x := a) h4 rfl) (mk_cat (a := [y]) (b := [s]) (mk_var (r := rS) (i := 7) (v := vc y) (x := [y]) h7 rfl) (mk_var (r := rS) (i := 3) (v := vc s) (x := [s]) h3 rfl) (by simp))) (mka_cons (mk_tup (r := rC) (t := rS) (mk_var (r := rC) (i := 4) (v := vc a) (x := a) h4 rfl) (mk_cat (a := [z]) (b := [b]) (mk_var (r := rS) (i := 8) (v := vc z) (x := [z]) h8 rfl) (mk_var (r := rS) (i := 5) (v := vc b) (x := [b]) h5 rfl) (by simp))) (mka_cons (mk_tup (r := rC) (t := rS) (mk_var (r := rC) (i := 5) (v := vc b) (x := b) h5 rfl) (mk_cat (a := [x]) (b := [b]) (mk_var (r := rS) (i := 6) (v := vc x) (x := [x]) h6 rfl) (mk_var (r := rS) (i := 5) (v := vc b) (x := [b]) h5 rfl) (by simp))) mka_nil)))) (by simp)) (mka_cons (mk_lst (mka_cons (mk_tup (r := rC) (t := rS) (mk_var (r := rC) (i := 3) (v := vc s) (x := s) h3 rfl) (mk_cat (a := ([a] ++ [x])) (b := [b]) (mk_cat (a := [a]) (b := [x]) (mk_var (r := rS) (i := 4) (v := vc a) (x := [a]) h4 rfl) (mk_var (r := rS) (i := 6) (v := vc x) (x := [x]) h6 rfl) (by simp)) (mk_var (r := rS) (i := 5) (v := vc b) (x := [b]) h5 rfl) (by simp))) (mka_cons (mk_tup (r := rC) (t := rS) (mk_var (r := rC) (i := 4) (v := vc a) (x := a) h4 rfl) (mk_cat (a := [b]) (b := [a]) (mk_var (r := rS) (i := 5) (v := vc b) (x := [b]) h5 rfl) (mk_var (r := rS) (i := 4) (v := vc a) (x := [a]) h4 rfl) (by simp))) (mka_cons (mk_tup (r := rC) (t := rS) (mk_var (r := rC) (i := 5) (v := vc b) (x := b) h5 rfl) (mk_var (r := rS) (i := 7) (v := vc y) (x := [y]) h7 rfl)) mka_nil))) (by simp)) mka_nil)))))))) (by simp))
theorem menu_mk_use {σ : L2.St} {F H : Hp} {Q : V → Hp → Prop} {a b s x y z : Nat} (h3 : σ[3]? = some (some (vc s))) (h4 : σ[4]? = some (some (vc a))) (h5 : σ[5]? = some (some (vc b))) (h6 : σ[6]? = some (some (vc x))) (h7 : σ[7]? = some (some (vc y))) (h8 : σ[8]? = some (some (vc z))) (sF : Same F H) (k : ∀ v F' H', Ext F H F' H' → (rL (rL rRule)) F' v [[(s, (([x] ++ [s]) ++ [y]))], [(s, ((([x] ++ [s]) ++ [y]) ++ [s]))], [(s, (([a] ++ [z]) ++ [s])), (s, [a]), (a, (([x] ++ [s]) ++ [y]))], [(s, (([x] ++ [s]) ++ [x])), (s, (([y] ++ [s]) ++ [y]))], [(s, ([a] ++ [b])), (a, ([x] ++ [a])), (b, ([b] ++ [y]))], [(s, ([s] ++ [s])), (s, (([x] ++ [s]) ++ [y]))], [(s, ([x] ++ [a])), (a, ([y] ++ [s])), (a, ([z] ++ [b])), (b, ([x] ++ [b]))], [(s, (([a] ++ [x]) ++ [b])), (a, ([b] ++ [a])), (b, [y])]] → Q v H') : (tLst (tCons (tLst (tCons (tTup (tCons (tVar 3) (tCons (tOp (fun x y H Q => ∃ i j, x = V.str i ∧ y = V.str j ∧ i.length + j.length ≤ sizeLine ∧ Q (V.str (i ++ j)) H) (tOp (fun x y H Q => ∃ i j, x = V.str i ∧ y = V.str j ∧ i.length + j.length ≤ sizeLine ∧ Q (V.str (i ++ j)) H) (tVar 6) (tVar 3)) (tVar 7)) tNil))) tNil)) (tCons (tLst (tCons (tTup (tCons (tVar 3) (tCons (tOp (fun x y H Q => ∃ i j, x = V.str i ∧ y = V.str j ∧ i.length + j.length ≤ sizeLine ∧ Q (V.str (i ++ j)) H) (tOp (fun x y H Q => ∃ i j, x = V.str i ∧ y = V.str j ∧ i.length + j.length ≤ sizeLine ∧ Q (V.str (i ++ j)) H) (tOp (fun x y H Q => ∃ i j, x = V.str i ∧ y = V.str j ∧ i.length + j.length ≤ sizeLine ∧ Q (V.str (i ++ j)) H) (tVar 6) (tVar 3)) (tVar 7)) (tVar 3)) tNil))) tNil)) (tCons (tLst (tCons (tTup (tCons (tVar 3) (tCons (tOp (fun x y H Q => ∃ i j, x = V.str i ∧ y = V.str j ∧ i.length + j.length ≤ sizeLine ∧ Q (V.str (i ++ j)) H) (tOp (fun x y H Q => ∃ i j, x = V.str i ∧ y = V.str j ∧ i.length + j.length ≤ sizeLine ∧ Q (V.str (i ++ j)) H) (tVar 4) (tVar 8)) (tVar 3)) tNil))) (tCons (tTup (tCons (tVar 3) (tCons (tVar 4) tNil))) (tCons (tTup (tCons (tVar 4) (tCons (tOp (fun x y H Q => ∃ i j, x = V.str i ∧ y = V.str j ∧ i.length + j.length ≤ sizeLine ∧ Q (V.str (i ++ j)) H) (tOp (fun x y H Q => ∃ i j, x = V.str i ∧ y = V.str j ∧ i.length + j.length ≤ sizeLine ∧ Q (V.str (i ++ j)) H) (tVar 6) (tVar 3)) (tVar 7)) tNil))) tNil)))) (tCons (tLst (tCons (tTup (tCons (tVar 3) (tCons (tOp (fun x y H Q => ∃ i j, x = V.str i ∧ y = V.str j ∧ i.length + j.length ≤ sizeLine ∧ Q (V.str (i ++ j)) H) (tOp (fun x y H Q => ∃ i j, x = V.str i ∧ y = V.str j ∧ i.length + j.length ≤ sizeLine ∧ Q (V.str (i ++ j)) H) (tVar 6) (tVar 3)) (tVar 6)) tNil))) (tCons (tTup (tCons (tVar 3) (tCons (tOp (fun x y H Q => ∃ i j, x = V.str i ∧ y = V.str j ∧ i.length + j.length ≤ sizeLine ∧ Q (V.str (i ++ j)) H) (tOp (fun x y H Q => ∃ i j, x = V.str i ∧ y = V.str j ∧ i.length + j.length ≤ sizeLine ∧ Q (V.str (i ++ j)) H) (tVar 7) (tVar 3)) (tVar 7)) tNil))) tNil))) (tCons (tLst (tCons (tTup (tCons (tVar 3) (tCons (tOp (fun x y H Q => ∃ i j, x = V.str i ∧ y = V.str j ∧ i.length + j.length ≤ sizeLine ∧ Q (V.str (i ++ j)) H) (tVar 4) (tVar 5)) tNil))) (tCons (tTup (tCons (tVar 4) (tCons (tOp (fun x y H Q => ∃ i j, x = V.str i ∧ y = V.str j ∧ i.length + j.length ≤ sizeLine ∧ Q (V.str (i ++ j)) H) (tVar 6) (tVar 4)) tNil))) (tCons (tTup (tCons (tVar 5) (tCons (tOp (fun x y H Q => ∃ i j, x = V.str i ∧ y = V.str j ∧ i.length + j.length ≤ sizeLine ∧ Q (V.str (i ++ j)) H) (tVar 5) (tVar 7)) tNil))) tNil)))) (tCons (tLst (tCons (tTup (tCons (tVar 3) (tCons (tOp (fun x y H Q => ∃ i j, x = V.str i ∧ y = V.str j ∧ i.length + j.length ≤ sizeLine ∧ Q (V.str (i ++ j)) H) (tVar 3) (tVar 3)) tNil))) (tCons (tTup (tCons (tVar 3) (tCons (tOp (fun x y H Q => ∃ i j, x = V.str i ∧ y = V.str j ∧ i.length + j.length ≤ sizeLine ∧ Q (V.str (i ++ j)) H) (tOp (fun x y H Q => ∃ i j, x = V.str i ∧ y = V.str j ∧ i.length + j.length ≤ sizeLine ∧ Q (V.str (i ++ j)) H) (tVar 6) (tVar 3)) (tVar 7)) tNil))) tNil))) (tCons (tLst (tCons (tTup (tCons (tVar 3) (tCons (tOp (fun x y H Q => ∃ i j, x = V.str i ∧ y = V.str j ∧ i.length + j.length ≤ sizeLine ∧ Q (V.str (i ++ j)) H) (tVar 6) (tVar 4)) tNil))) (tCons (tTup (tCons (tVar 4) (tCons (tOp (fun x y H Q => ∃ i j, x = V.str i ∧ y = V.str j ∧ i.length + j.length ≤ sizeLine ∧ Q (V.str (i ++ j)) H) (tVar 7) (tVar 3)) tNil))) (tCons (tTup (tCons (tVar 4) (tCons (tOp (fun x y H Q => ∃ i j, x = V.str i ∧ y = V.str j ∧ i.length + j.length ≤ sizeLine ∧ Q (V.str (i ++ j)) H) (tVar 8) (tVar 5)) tNil))) (tCons (tTup (tCons (tVar 5) (tCons (tOp (fun x y H Q => ∃ i j, x = V.str i ∧ y = V.str j ∧ i.length + j.length ≤ sizeLine ∧ Q (V.str (i ++ j)) H) (tVar 6) (tVar 5)) tNil))) tNil))))) (tCons (tLst (tCons (tTup (tCons (tVar 3) (tCons (tOp (fun x y H Q => ∃ i j, x = V.str i ∧ y = V.str j ∧ i.length + j.length ≤ sizeLine ∧ Q (V.str (i ++ j)) H) (tOp (fun x y H Q => ∃ i j, x = V.str i ∧ y = V.str j ∧ i.length + j.length ≤ sizeLine ∧ Q (V.str (i ++ j)) H) (tVar 4) (tVar 6)) (tVar 5)) tNil))) (tCons (tTup (tCons (tVar 4) (tCons (tOp (fun x y H Q => ∃ i j, x = V.str i ∧ y = V.str j ∧ i.length + j.length ≤ sizeLine ∧ Q (V.str (i ++ j)) H) (tVar 5) (tVar 4)) tNil))) (tCons (tTup (tCons (tVar 5) (tCons (tVar 7) tNil))) tNil)))) tNil))))))))) σ H Q := menu_mk h3 h4 h5 h6 h7 h8 F H Q (Same.refl F) sF k
end SF
namespace SF
open PySem PySem.Spec PyProof.Rows L2
/-! ### the head's facts: names, defs at any address, and a Bool of one's own -/
abbrev AlP : Type := He.AlD × Bool
def obsP (fa : List He.Fa) (fn : List He5.DefA) (ex : PySem.W.Frag → Bool) (K : PySem.W.Frag) : AlP := (He5.obsA fa fn K, ex K)
def valP (fn : List He5.DefA) : AlP := (He5.valA fn, true)
def obsPG (n : Nat) (fa : List He.Fa) (fn : List He5.DefA) (ex : PySem.W.Frag → Bool) (g : Addr → Option Obj) : AlP := obsP fa fn ex (He.frG g (He5.asA g n))
structure SaysP (fa : List He.Fa) (fn : List He5.DefA) (ex : PySem.W.Frag → Bool) (K : PySem.W.Frag) : Prop where
  a : He5.SaysA fa fn K
  more : ex K = true
def hookP (n : Nat) (fa : List He.Fa) (fn : List He5.DefA) (ex : PySem.W.Frag → Bool) : PySem.W.Hook where
  α := AlP
  obs := fun s => obsPG n fa fn ex s.heap.get?
  val := fun _ => valP fn
  says := fun _ h => ∃ K : PySem.W.Frag, K.In h ∧ SaysP fa fn ex K
  of := fun _ _ e => ⟨_, He.frG_in, congrArg (fun z : AlP => z.1) e, congrArg (fun z : AlP => z.2) e⟩
  keeps := fun _ _ _ ⟨K, hK, c⟩ k => ⟨K, PySem.W.Frag.In.keeps hK k, c⟩
theorem obsPG_eq {n : Nat} {fa : List He.Fa} {fn : List He5.DefA} {ex : PySem.W.Frag → Bool} {g : Addr → Option Obj} {s : Shared} (h : ∀ a, g a = s.heap.get? a) : obsPG n fa fn ex g = (hookP n fa fn ex).obs s := by
  have e : g = s.heap.get? := funext h
  rw [e] <;> rfl
/-! ### facts of one's own -/
def propB (K : PySem.W.Frag) (x f : Str) : Bool := He.eqO (PySem.W.findIn K (.ref (He.ga K x)) f) (some (some (.ref (He.ma K (He.ga K x) f)))) && (He.eqO (PySem.W.specialIn K (.ref (He.ma K (He.ga K x) f)) "__get__") (some (some (.builtin "property.__get__"))) &&
  (decide (PySem.W.takesIn K (.ref (He.ma K (He.ga K x) f)) = some true) && (match PySem.W.recIn K (He.ma K (He.ga K x) f) "property" with
    | some (.ref _ :: _) => true
    | _ => false)))
theorem propB_ok {K : PySem.W.Frag} {x f : Str} (h : propB K x f = true) : PropOf K (He.ga K x) f (He.ma K (He.ga K x) f) (He5.wf K (He.ga K x) "property" f) := by
  obtain ⟨h1, h⟩ := He.ba h
  obtain ⟨h2, h⟩ := He.ba h
  obtain ⟨h3, h4⟩ := He.ba h
  refine ⟨He.eqO_ok h1, He.eqO_ok h2, of_decide_eq_true h3, ?_⟩
  unfold He5.wf
  split at h4
  · rename_i f r e
    exact ⟨r, by rw [e]⟩
  · cases h4
def creadB (K : PySem.W.Frag) (x : Str) : Bool := PySem.W.readsIn K (He.ga K x) (.type "type") && He.eqO (PySem.W.specialIn K (.ref (He.ga K x)) "__getattribute__") (some (some (.builtin "type.__getattribute__")))
theorem creadB_ok {K : PySem.W.Frag} {x : Str} (h : creadB K x = true) : ClX.CRead K (He.ga K x) (.type "type") := by
  obtain ⟨h1, h2⟩ := He.ba h
  exact ⟨h1, He.eqO_ok h2⟩
def cvalB (K : PySem.W.Frag) (x f : Str) (v : He.Dv) : Bool := match PySem.W.findCls K (.ref (He.ga K x)) (.type "type") f with
  | some (.val u) => He.relB (v.v K) u
  | _ => false
theorem cvalB_ok {K : PySem.W.Frag} {x f : Str} {v : He.Dv} (h : cvalB K x f v = true) : ∃ u, ClX.CVal K (He.ga K x) (.type "type") f (v.v K) u := by
  unfold cvalB at h
  split at h
  · rename_i u e
    exact ⟨u, e, He.relB_ok h⟩
  · cases h
end SF
namespace SF
open PySem PySem.Spec PyProof.Rows L2
def top (i : Nat) : Stmt := PySem.Challenge.pw_surefaults_k05_grammar_rules.main.body.getD i (.Pass ⟨0, 0, 0, 0⟩)
abbrev s_is_sign : Stmt := top 14
abbrev n_is_sign : List Str := ["char"]
theorem sc_is_sign : FnScope n_is_sign ["char"] (defScope s_is_sign) := ⟨rfl, rfl, rfl, by decide +kernel, rfl, by decide +kernel, by decide +kernel⟩
abbrev s_is_name : Stmt := top 26
abbrev n_is_name : List Str := ["char"]
theorem sc_is_name : FnScope n_is_name ["char"] (defScope s_is_name) := ⟨rfl, rfl, rfl, by decide +kernel, rfl, by decide +kernel, by decide +kernel⟩
abbrev s_is_body : Stmt := top 27
abbrev n_is_body : List Str := ["body", "char"]
theorem sc_is_body : FnScope n_is_body ["body"] (defScope s_is_body) := ⟨rfl, rfl, rfl, by decide +kernel, rfl, by decide +kernel, by decide +kernel⟩
abbrev s_names_in : Stmt := top 28
abbrev n_names_in : List Str := ["body", "char"]
theorem sc_names_in : FnScope n_names_in ["body"] (defScope s_names_in) := ⟨rfl, rfl, rfl, by decide +kernel, rfl, by decide +kernel, by decide +kernel⟩
abbrev s_least_lengths : Stmt := top 29
abbrev n_least_lengths : List Str := ["rules", "lengths", "changed", "name", "body", "parts", "total", "part"]
theorem sc_least_lengths : FnScope n_least_lengths ["rules"] (defScope s_least_lengths) := ⟨rfl, rfl, rfl, by decide +kernel, rfl, by decide +kernel, by decide +kernel⟩
abbrev s_useful_numbers : Stmt := top 30
abbrev n_useful_numbers : List Str := ["rules", "root", "lengths", "reached", "index", "name", "body", "part", "number"]
theorem sc_useful_numbers : FnScope n_useful_numbers ["rules", "root", "lengths"] (defScope s_useful_numbers) := ⟨rfl, rfl, rfl, by decide +kernel, rfl, by decide +kernel, by decide +kernel⟩
abbrev s_least_derivations : Stmt := top 31
abbrev n_least_derivations : List Str := ["rules", "numbers", "lengths", "best", "changed", "number", "name", "body", "parts", "total", "steps", "word", "part", "char"]
theorem sc_least_derivations : FnScope n_least_derivations ["rules", "numbers", "lengths"] (defScope s_least_derivations) := ⟨rfl, rfl, rfl, by decide +kernel, rfl, by decide +kernel, by decide +kernel⟩
abbrev s_Table___init__ : Stmt := inClass (top 16) 0
abbrev n_Table___init__ : List Str := ["self", "pairs", "numbers", "vanishing", "number", "name"]
theorem sc_Table___init__ : FnScope n_Table___init__ ["self", "pairs", "numbers", "vanishing"] (defScope s_Table___init__) := ⟨rfl, rfl, rfl, by decide +kernel, rfl, by decide +kernel, by decide +kernel⟩
abbrev s_Grammar___init__ : Stmt := inClass (top 33) 1
abbrev n_Grammar___init__ : List Str := ["self", "rules", "root", "number", "name", "body", "lengths", "longest", "most_steps", "pairs", "numbers", "vanishing"]
theorem sc_Grammar___init__ : FnScope n_Grammar___init__ ["self", "rules", "root"] (defScope s_Grammar___init__) := ⟨rfl, rfl, rfl, by decide +kernel, rfl, by decide +kernel, by decide +kernel⟩
abbrev s_Grammar_rules : Stmt := inClass (top 33) 3
abbrev n_Grammar_rules : List Str := ["self"]
theorem sc_Grammar_rules : FnScope n_Grammar_rules ["self"] (defScope s_Grammar_rules) := ⟨rfl, rfl, rfl, by decide +kernel, rfl, by decide +kernel, by decide +kernel⟩
abbrev s__law_cell : Stmt := top 35
abbrev n__law_cell : List Str := ["_law_script", "_law_k"]
theorem sc__law_cell : FnScope n__law_cell ["_law_script", "_law_k"] (defScope s__law_cell) := ⟨rfl, rfl, rfl, by decide +kernel, rfl, by decide +kernel, by decide +kernel⟩
abbrev s__law_draws : Stmt := top 36
abbrev n__law_draws : List Str := ["_law_cell_here", "_law_many", "_law_row", "_law_rest", "_law_mixed", "_law_k"]
theorem sc__law_draws : FnScope n__law_draws ["_law_cell_here", "_law_many"] (defScope s__law_draws) := ⟨rfl, rfl, rfl, by decide +kernel, rfl, by decide +kernel, by decide +kernel⟩
abbrev s__law_names : Stmt := top 37
abbrev n__law_names : List Str := ["_law_draws_here", "_law_letters", "_law_k"]
theorem sc__law_names : FnScope n__law_names ["_law_draws_here"] (defScope s__law_names) := ⟨rfl, rfl, rfl, by decide +kernel, rfl, by decide +kernel, by decide +kernel⟩
abbrev s__law_signs : Stmt := top 38
abbrev n__law_signs : List Str := ["_law_draws_here", "_law_every", "_law_k"]
theorem sc__law_signs : FnScope n__law_signs ["_law_draws_here"] (defScope s__law_signs) := ⟨rfl, rfl, rfl, by decide +kernel, rfl, by decide +kernel, by decide +kernel⟩
abbrev s__law_known : Stmt := top 39
abbrev n__law_known : List Str := ["_law_number", "_law_names_here", "_law_signs_here", "_law_s", "_law_a", "_law_b", "_law_x", "_law_y", "_law_z", "_law_menu"]
theorem sc__law_known : FnScope n__law_known ["_law_number", "_law_names_here", "_law_signs_here"] (defScope s__law_known) := ⟨rfl, rfl, rfl, by decide +kernel, rfl, by decide +kernel, by decide +kernel⟩
abbrev s__law_grammar : Stmt := top 40
abbrev n__law_grammar : List Str := ["_law_draws_here", "_law_names_here", "_law_signs_here", "_law_parts", "_law_rules", "_law_k", "_law_at", "_law_body", "_law_j", "_law_one", "_law_ending"]
theorem sc__law_grammar : FnScope n__law_grammar ["_law_draws_here"] (defScope s__law_grammar) := ⟨rfl, rfl, rfl, by decide +kernel, rfl, by decide +kernel, by decide +kernel⟩
abbrev s__law_kept : Stmt := top 41
abbrev n__law_kept : List Str := ["_law_grammar_here", "_law_rules", "_law_base", "_law_told"]
theorem sc__law_kept : FnScope n__law_kept ["_law_grammar_here", "_law_rules", "_law_base"] (defScope s__law_kept) := ⟨rfl, rfl, rfl, by decide +kernel, rfl, by decide +kernel, by decide +kernel⟩
abbrev s_law : Stmt := top 42
abbrev n_law : List Str := ["_law_script", "_law_draws_here", "_law_base", "_law_rules", "_law_passed", "_law_grammar_here", "_law_rooted", "_law_first", "_law_second", "_law_k"]
theorem sc_law : FnScope n_law ["_law_script"] (defScope s_law) := ⟨rfl, rfl, rfl, by decide +kernel, rfl, by decide +kernel, by decide +kernel⟩
structure Ad where
  is_sign : Addr
  d_is_sign : FuncData
  is_name : Addr
  d_is_name : FuncData
  is_body : Addr
  d_is_body : FuncData
  names_in : Addr
  d_names_in : FuncData
  least_lengths : Addr
  d_least_lengths : FuncData
  useful_numbers : Addr
  d_useful_numbers : FuncData
  least_derivations : Addr
  d_least_derivations : FuncData
  Table___init__ : Addr
  d_Table___init__ : FuncData
  Grammar___init__ : Addr
  d_Grammar___init__ : FuncData
  Grammar_rules : Addr
  d_Grammar_rules : FuncData
  _law_cell : Addr
  d__law_cell : FuncData
  _law_draws : Addr
  d__law_draws : FuncData
  _law_names : Addr
  d__law_names : FuncData
  _law_signs : Addr
  d__law_signs : FuncData
  _law_known : Addr
  d__law_known : FuncData
  _law_grammar : Addr
  d__law_grammar : FuncData
  _law_kept : Addr
  d__law_kept : FuncData
  law : Addr
  d_law : FuncData
  Table : Addr
  Grammar : Addr
  pr_Grammar_rules : Addr
structure Txt (K : PySem.W.Frag) (mg : Str → Option Value) (a : Ad) : Prop where
  c_SIGNS : ∃ t, mg "SIGNS" = some (.str "abcdefghijklmnopqrstuvwxyz0123456789()[]{}+-*/,.;:!?" t)
  c_MOST_PARTS : ∃ t, mg "MOST_PARTS" = some (.int 4 t)
  c_MOST_WORD : ∃ t, mg "MOST_WORD" = some (.int 24 t)
  c_MOST_STEPS : ∃ t, mg "MOST_STEPS" = some (.int 100 t)
  z_len : mg "len" = none
  z_all : mg "all" = none
  z_sum : mg "sum" = none
  z_sorted : mg "sorted" = none
  z_set : mg "set" = none
  z_range : mg "range" = none
  z_enumerate : mg "enumerate" = none
  z_max : mg "max" = none
  z_list : mg "list" = none
  z_int : mg "int" = none
  z_isinstance : mg "isinstance" = none
  z_str : mg "str" = none
  f_is_sign : Fun K "is_sign" "is_sign" s_is_sign a.is_sign a.d_is_sign
  b_is_sign : Binds K a.d_is_sign ["char"] []
  m_is_sign : mg "is_sign" = some (.ref a.is_sign)
  f_is_name : Fun K "is_name" "is_name" s_is_name a.is_name a.d_is_name
  b_is_name : Binds K a.d_is_name ["char"] []
  m_is_name : mg "is_name" = some (.ref a.is_name)
  f_is_body : Fun K "is_body" "is_body" s_is_body a.is_body a.d_is_body
  b_is_body : Binds K a.d_is_body ["body"] []
  m_is_body : mg "is_body" = some (.ref a.is_body)
  f_names_in : Fun K "names_in" "names_in" s_names_in a.names_in a.d_names_in
  b_names_in : Binds K a.d_names_in ["body"] []
  m_names_in : mg "names_in" = some (.ref a.names_in)
  f_least_lengths : Fun K "least_lengths" "least_lengths" s_least_lengths a.least_lengths a.d_least_lengths
  b_least_lengths : Binds K a.d_least_lengths ["rules"] []
  m_least_lengths : mg "least_lengths" = some (.ref a.least_lengths)
  f_useful_numbers : Fun K "useful_numbers" "useful_numbers" s_useful_numbers a.useful_numbers a.d_useful_numbers
  b_useful_numbers : Binds K a.d_useful_numbers ["rules", "root", "lengths"] []
  m_useful_numbers : mg "useful_numbers" = some (.ref a.useful_numbers)
  f_least_derivations : Fun K "least_derivations" "least_derivations" s_least_derivations a.least_derivations a.d_least_derivations
  b_least_derivations : Binds K a.d_least_derivations ["rules", "numbers", "lengths"] []
  m_least_derivations : mg "least_derivations" = some (.ref a.least_derivations)
  f_Table___init__ : Fun K "__init__" "Table.__init__" s_Table___init__ a.Table___init__ a.d_Table___init__
  b_Table___init__ : Binds K a.d_Table___init__ ["self", "pairs", "numbers", "vanishing"] []
  k_mk_Table : Mk K a.Table a.Table___init__
  f_Grammar___init__ : FunD K "__init__" "Grammar.__init__" (defArgs s_Grammar___init__) (defBody s_Grammar___init__) (defScope s_Grammar___init__) [] [("root", .non)] a.Grammar___init__ a.d_Grammar___init__
  kp_Grammar___init__ : PySem.W.keepIn K (.ref a.Grammar___init__) = true
  k_mk_Grammar : Mk K a.Grammar a.Grammar___init__
  f_Grammar_rules : Fun K "rules" "Grammar.rules" s_Grammar_rules a.Grammar_rules a.d_Grammar_rules
  b_Grammar_rules : Binds K a.d_Grammar_rules ["self"] []
  p_Grammar_rules : PropOf K a.Grammar "rules" a.pr_Grammar_rules a.Grammar_rules
  f__law_cell : Fun K "_law_cell" "_law_cell" s__law_cell a._law_cell a.d__law_cell
  b__law_cell : Binds K a.d__law_cell ["_law_script", "_law_k"] []
  m__law_cell : mg "_law_cell" = some (.ref a._law_cell)
  f__law_draws : Fun K "_law_draws" "_law_draws" s__law_draws a._law_draws a.d__law_draws
  b__law_draws : Binds K a.d__law_draws ["_law_cell_here", "_law_many"] []
  m__law_draws : mg "_law_draws" = some (.ref a._law_draws)
  f__law_names : Fun K "_law_names" "_law_names" s__law_names a._law_names a.d__law_names
  b__law_names : Binds K a.d__law_names ["_law_draws_here"] []
  m__law_names : mg "_law_names" = some (.ref a._law_names)
  f__law_signs : Fun K "_law_signs" "_law_signs" s__law_signs a._law_signs a.d__law_signs
  b__law_signs : Binds K a.d__law_signs ["_law_draws_here"] []
  m__law_signs : mg "_law_signs" = some (.ref a._law_signs)
  f__law_known : Fun K "_law_known" "_law_known" s__law_known a._law_known a.d__law_known
  b__law_known : Binds K a.d__law_known ["_law_number", "_law_names_here", "_law_signs_here"] []
  m__law_known : mg "_law_known" = some (.ref a._law_known)
  f__law_grammar : Fun K "_law_grammar" "_law_grammar" s__law_grammar a._law_grammar a.d__law_grammar
  b__law_grammar : Binds K a.d__law_grammar ["_law_draws_here"] []
  m__law_grammar : mg "_law_grammar" = some (.ref a._law_grammar)
  f__law_kept : Fun K "_law_kept" "_law_kept" s__law_kept a._law_kept a.d__law_kept
  b__law_kept : Binds K a.d__law_kept ["_law_grammar_here", "_law_rules", "_law_base"] []
  m__law_kept : mg "_law_kept" = some (.ref a._law_kept)
  f_law : Fun K "law" "law" s_law a.law a.d_law
  b_law : Binds K a.d_law ["_law_script"] []
  m_law : mg "law" = some (.ref a.law)
  k_Table : Cls K a.Table
  m_Table : mg "Table" = some (.ref a.Table)
  na_Table_pairs : NoAttr K a.Table "pairs"
  na_Table_numbers : NoAttr K a.Table "numbers"
  na_Table_vanishing : NoAttr K a.Table "vanishing"
  na_Table_by_name : NoAttr K a.Table "by_name"
  k_Grammar : Cls K a.Grammar
  m_Grammar : mg "Grammar" = some (.ref a.Grammar)
  na_Grammar__rules : NoAttr K a.Grammar "_rules"
  na_Grammar_root : NoAttr K a.Grammar "root"
  na_Grammar__useful : NoAttr K a.Grammar "_useful"
  na_Grammar__best : NoAttr K a.Grammar "_best"
  na_Grammar_forward : NoAttr K a.Grammar "forward"
  na_Grammar_backward : NoAttr K a.Grammar "backward"
  con_Grammar_MOST_RULES : ∃ u, Con K a.Grammar "MOST_RULES" (.int 16) u
  cr_Grammar : ClX.CRead K a.Grammar (.type "type")
  cv_Grammar_MOST_RULES : ∃ u, ClX.CVal K a.Grammar (.type "type") "MOST_RULES" (.int 16) u
end SF
namespace SF
open PySem PySem.Spec PyProof.Rows L2
def sp_is_sign : Sp := fun vs H Q _ => ∃ c : List Nat, vs = [.str (S c)] ∧ c.length ≤ sizeLine ∧ Q (.bl (isSign c)) H
def sp_is_name : Sp := fun vs H Q _ => ∃ c : List Nat, vs = [.str (S c)] ∧ c.length ≤ sizeLine ∧ Q (.bl (isName c)) H
section
variable {P : Program} {w : World} {K : PySem.W.Frag} {mg : Str → Option Value} {base : Heap} {a : Ad}
theorem SIGNS_eq : (Str.ofString "abcdefghijklmnopqrstuvwxyz0123456789()[]{}+-*/,.;:!?") = S SIGNSl := by decide +kernel
theorem ok_is_sign (T : Txt K mg a) : FnOk P w K mg base CX0 1 a.is_sign a.d_is_sign ["char"] sp_is_sign := by
  refine T.f_is_sign.ok sc_is_sign (fun vs H Q E h => ?_) (fun cdv A outer s H vs Q E hr h => ?_)
  · obtain ⟨c, rfl, _⟩ := h; rfl
  · obtain ⟨c, rfl, hc, k⟩ := h
    refine ⟨_, (pss_one (ps_ret (pe_and (pe_cmpR op_eq (pe_callB call_len_str (by rfl) T.z_len PySem.boot_len (pa_cons (pv 0) pa_nil)) pe_int (nomark _)) (pe_one (pe_cmpR op_in_sign (pv 0) (pe_globs (by rfl) T.c_SIGNS) (by rfl)))))), ?_⟩
    refine ⟨_, rfl, _, rfl, by rw [S_len]; exact hc, rfl, _, rfl, ?_⟩
    rw [dec_ii, S_len]
    match c, k with
    | [], k => exact iteF k
    | [x], k =>
      refine iteT ⟨_, rfl, x, _, rfl, rfl, ?_⟩
      rw [SIGNS_eq, S_cps]
      exact k
    | x :: y :: r, k =>
      rw [decide_eq_false (by simp only [List.length_cons]; omega)]
      exact iteF k
theorem ok_is_name (T : Txt K mg a) : FnOk P w K mg base CX0 1 a.is_name a.d_is_name ["char"] sp_is_name := by
  refine T.f_is_name.ok sc_is_name (fun vs H Q E h => ?_) (fun cdv A outer s H vs Q E hr h => ?_)
  · obtain ⟨c, rfl, _⟩ := h; rfl
  · obtain ⟨c, rfl, hc, k⟩ := h
    refine ⟨_, (pss_one (ps_ret (pe_and (pe_cmpR op_eq (pe_callB call_len_str (by rfl) T.z_len PySem.boot_len (pa_cons (pv 0) pa_nil)) pe_int (nomark _)) (pe_one (pe_chain op_le_str op_le_str pe_str (pv 0) pe_str))))), ?_⟩
    refine ⟨_, rfl, _, rfl, by rw [S_len]; exact hc, rfl, _, rfl, ?_⟩
    rw [dec_ii, S_len]
    match c, k with
    | [], k => exact iteF k
    | [x], k =>
      refine iteT ?_
      repeat (first | refine ⟨_, rfl, ?_⟩ | refine ⟨_, _, rfl, rfl, ?_⟩ | refine ⟨rfl, ?_⟩)
      have e1 : (Str.ofString "A").cps.toList = [65] := by decide +kernel
      have e2 : (Str.ofString "Z").cps.toList = [90] := by decide +kernel
      rw [e1, S_cps]
      by_cases h1 : x < 65
      · have q1 : (!decide ([x] < [65])) = false := by simp [List.cons_lt_cons_iff]; omega
        have q2 : isName [x] = false := by simp [isName, nam]; omega
        rw [q1]
        rw [q2] at k
        exact iteF k
      · have q1 : (!decide ([x] < [65])) = true := by simp [List.cons_lt_cons_iff]; omega
        rw [q1]
        refine iteT ?_
        repeat (first | refine ⟨_, rfl, ?_⟩ | refine ⟨_, _, rfl, rfl, ?_⟩ | refine ⟨rfl, ?_⟩)
        rw [e2]
        have q2 : (!decide (([90] : List Nat) < (S [x]).cps.toList)) = isName [x] := by
          have h2 : 65 ≤ x := Nat.le_of_not_lt h1
          by_cases h3 : x ≤ 90
          · simp [isName, nam, List.cons_lt_cons_iff, h2, h3]
          · simp [isName, nam, List.cons_lt_cons_iff, h2, h3]; omega
        rw [q2]
        exact k
    | x :: y :: r, k =>
      rw [decide_eq_false (by simp only [List.length_cons]; omega)]
      exact iteF k
def sp_is_body : Sp := fun vs H Q _ => ∃ (F : Hp) (c : List Nat), vs = [.str (S c)] ∧ Same F H ∧ c.length ≤ 1000000 ∧ ∀ F' H', Ext F H F' H' → Q (.bl (isBody c)) H'
theorem ok_is_body (T : Txt K mg a) : FnOk P w K mg base CX0 2 a.is_body a.d_is_body ["body"] sp_is_body := by
  have G_is_sign := ok_is_sign (P := P) (w := w) (base := base) T
  have G_is_name := ok_is_name (P := P) (w := w) (base := base) T
  refine T.f_is_body.ok sc_is_body (fun vs H Q E h => ?_) (fun cdv A outer s H vs Q E hr h => ?_)
  · obtain ⟨F, c, rfl, _⟩ := h; rfl
  · obtain ⟨F, c, rfl, sF, hc, k⟩ := h
    refine ⟨_, (pss_one (ps_ret (pe_and (pe_cmpR op_le (pe_callB call_len_str (by rfl) T.z_len PySem.boot_len (pa_cons (pv 0) pa_nil)) (pe_globi (by rfl) T.c_MOST_PARTS) (nomark _)) (pe_one (pe_callB (cr_allK (K := K) (by rfl)) (by rfl) T.z_all (by decide +kernel) (pa_cons (pe_lc (own := [("char", 1)]) (g := gName 1) (tt := tYes) (by rfl) sc_is_body.nd (pi_str (pv 0)) (blkOk_by (own := [("char", 1)]) (N := n_is_body) (sc := (defScope s_is_body)) (by decide +kernel)) (fun _ _ _ _ _ => (pg_name (i := 1) sc_is_body.nd rfl (Or.inl rfl))) (fun _ _ _ _ _ => pts_nil) (fun _ _ _ _ _ => (pe_or (pe_call G_is_sign (hr.mono (by decide)) (by rfl) T.m_is_sign T.f_is_sign.kp T.b_is_sign .nil pass0 (pa_cons (pv 1) pa_nil)) (pe_one (pe_call G_is_name (hr.mono (by decide)) (by rfl) T.m_is_name T.f_is_name.kp T.b_is_name .nil pass0 (pa_cons (pv 1) pa_nil)))))) pa_nil)))))), ?_⟩
    have hc' : (S c).length ≤ sizeLine := by rw [S_len, sl64]; omega
    refine ⟨_, rfl, _, rfl, hc', _, _, rfl, rfl, _, rfl, ?_⟩
    by_cases h4 : c.length ≤ 4
    · have q1 : decide (((S c).length : Int) ≤ 4) = true := by rw [S_len]; exact decide_eq_true (by omega)
      rw [q1]
      refine iteT ?_
      refine ⟨_, rfl, _, rfl, fun D hD => ?_⟩
      refine lc_it walk_str (LcI rB F H D fun i => (c.take i).map fun x => sgn x || nam x) (LcI.start sF hD rfl) (fun _ _ _ _ => trivial) ?_ ?_
      · rintro i x H1 H2 hi ⟨F', ws, e, fD, hD', al⟩ ⟨rfl, ch, hch, rfl⟩
        have hch := S_get hch
        have hl1 : ([ch] : List Nat).length ≤ sizeLine := by rw [sl64]; simp
        have fin : ∀ b : Bool, b = (sgn ch || nam ch) → ∃ acc, H2 D = some (.lst acc) ∧ acc.length < sizeLine ∧ LcI rB F H D (fun i => (c.take i).map fun x => sgn x || nam x) (i + 1) (upd H2 D (.lst (acc ++ [.bl b]))) := fun b hb => by
          subst hb
          refine LcI.yes (sgn ch || nam ch) hD e fD hD' al (Ext.refl e.fh) rfl (map_more hch) ?_
          rw [List.length_map, List.length_take, sl64]; omega
        refine ⟨rfl, _, rfl, [ch], rfl, hl1, isSign [ch], rfl, ?_⟩
        cases hs : isSign [ch] with
        | true => exact iteT (fin true (by simp [isSign] at hs; simp [hs]))
        | false =>
          refine iteF ⟨_, rfl, [ch], rfl, hl1, fin _ ?_⟩
          have hs' : sgn ch = false := hs
          rw [hs']
          rfl
      · intro H' h'
        obtain ⟨F', vs, e, fD, al⟩ := h'.frz hD
        refine ⟨D, _, rfl, SqL.of (by rw [e.fh _ _ fD, al.bls]), ?_⟩
        have q2 : ((c.take (S c).cps.size).map fun x => sgn x || nam x).all id = isBody c := by
          rw [S_size, List.take_length, List.all_map]
          unfold isBody
          rw [decide_eq_true h4]
          rfl
        rw [q2]
        exact k F' H' e
    · have q1 : decide (((S c).length : Int) ≤ 4) = false := by rw [S_len]; exact decide_eq_false (by omega)
      rw [q1]
      refine iteF ?_
      have q2 : isBody c = false := by unfold isBody; rw [decide_eq_false h4]; rfl
      rw [q2] at k
      exact k F H (Ext.refl sF)
def sp_names_in : Sp := Pu1 rS (fun l => l.length ≤ 1000000) (rL rS) (fun l => ch1 (namesIn l))
theorem ok_names_in (T : Txt K mg a) : FnOk P w K mg base CX0 2 a.names_in a.d_names_in ["body"] sp_names_in := by
  have G_is_name := ok_is_name (P := P) (w := w) (base := base) T
  refine T.f_names_in.ok sc_names_in (fun vs H Q E h => ?_) (fun cdv A outer s H vs Q E hr h => ?_)
  · obtain ⟨F, v0, c, rfl, _⟩ := h; rfl
  · obtain ⟨F, _, c, rfl, sF, rfl, hc, k⟩ := h
    refine ⟨_, (pss_one (ps_ret (pe_lc (own := [("char", 1)]) (g := gName 1) (by rfl) sc_names_in.nd (pi_str (pv 0)) (blkOk_by (own := [("char", 1)]) (N := n_names_in) (sc := (defScope s_names_in)) (by decide +kernel)) (fun _ _ _ _ _ => (pg_name (i := 1) sc_names_in.nd rfl (Or.inl rfl))) (fun _ _ _ _ _ => (pts_one (pt_val (pe_call G_is_name (hr.mono (by decide)) (by rfl) T.m_is_name T.f_is_name.kp T.b_is_name .nil pass0 (pa_cons (pv 1) pa_nil))))) (fun _ _ _ _ _ => (pv 1))))), ?_⟩
    refine ⟨_, rfl, _, rfl, fun D hD => ?_⟩
    refine lc_it walk_str (LcI rS F H D fun i => ch1 ((c.take i).filter nam)) (LcI.start sF hD rfl) (fun _ _ _ _ => trivial) ?_ ?_
    · rintro i x H1 H2 hi ⟨F', ws, e, fD, hD', al⟩ ⟨rfl, ch, hch, rfl⟩
      have hch := S_get hch
      have hl1 : ([ch] : List Nat).length ≤ sizeLine := by rw [sl64]; simp
      refine ⟨rfl, _, rfl, [ch], rfl, hl1, _, rfl, ?_⟩
      cases hn : isName [ch] with
      | true =>
        refine iteT ⟨_, rfl, ?_⟩
        have hn' : nam ch = true := hn
        refine LcI.yes [ch] hD e fD hD' al (Ext.refl e.fh) rfl ?_ ?_
        · show ch1 _ = ch1 _ ++ _
          rw [filter_yes hch hn']; simp [ch1]
        · have := List.length_filter_le nam (c.take i)
          rw [List.length_map, sl64]; rw [List.length_take] at this; omega
      | false =>
        have hn' : nam ch = false := hn
        refine iteF (LcI.no e fD hD' al (Ext.refl e.fh) ?_)
        show ch1 _ = ch1 _
        rw [filter_no hch hn']
    · intro H' h'
      obtain ⟨F', vs, e, fD, al⟩ := h'.frz hD
      refine k _ F' H' e ⟨D, vs, rfl, fD, ?_⟩
      rw [S_size, List.take_length] at al
      exact al
end
end SF
namespace SF
open PySem PySem.Spec PyProof.Rows L2
def sp_least_lengths : Sp := Pu1 (rL rRule) RulesOk (rD encN rNat) leastLengths
section
variable {P : Program} {w : World} {K : PySem.W.Frag} {mg : Str → Option Value} {base : Heap} {a : Ad}
/-- the lengths at d within a body -/
def LLd (F H : Hp) (d : Addr) (m : List (Nat × Nat)) (H' : Hp) : Prop := ∃ F' kvs, Ext F H F' H' ∧ F' d = none ∧ H' d = some (.dK kvs) ∧ AD encN rNat F' kvs m
theorem ok_least_lengths (T : Txt K mg a) : FnOk P w K mg base CX0 3 a.least_lengths a.d_least_lengths ["rules"] sp_least_lengths := by
  have G_names_in := ok_names_in (P := P) (w := w) (base := base) T
  refine T.f_least_lengths.ok sc_least_lengths (fun vs H Q E h => ?_) (fun cdv A outer s H vs Q E hr h => ?_)
  · obtain ⟨F, v0, c, rfl, _⟩ := h; rfl
  · obtain ⟨F, _, rules, rfl, sF, ⟨ra, rvs, rfl, hra, hal⟩, hok, k⟩ := h
    refine ⟨_, (pss_cons (ps_set (i := 1) sc_least_lengths.nd rfl (Or.inr rfl) pe_dnewK)
  (pss_cons (ps_set (i := 2) sc_least_lengths.nd rfl (Or.inl rfl) pe_bl)
  (pss_cons (ps_while PassesOwn.never (pt_val (pv 2))
    (pss_cons (ps_set (i := 2) sc_least_lengths.nd rfl (Or.inl rfl) pe_bl)
  (pss_one (ps_for PassesOwn.never rfl (pi_listK (K := K) (pv 0)) (pg_tupK (K := K) (n := 2) (by rfl) (pgs_cons (pg_name (i := 3) sc_least_lengths.nd rfl (Or.inl rfl)) (pgs_cons (pg_name (i := 4) sc_least_lengths.nd rfl (Or.inl rfl)) pgs_nil)))
    (pss_cons (ps_setLc (i := 5) (own := [("part", 7)]) (g := gName 7) (tt := tYes) (by rfl) sc_least_lengths.nd rfl rfl (sw_true rfl rfl rfl (by decide +kernel)) (pi_listK (K := K) (pe_call G_names_in (hr.mono (by decide)) (by rfl) T.m_names_in T.f_names_in.kp T.b_names_in .nil pass0 (pa_cons (pv 4) pa_nil))) (blkOk_by (own := [("part", 7)]) (N := n_least_lengths) (sc := (defScope s_least_lengths)) (by decide +kernel)) (fun _ _ _ _ _ => (pg_name (i := 7) sc_least_lengths.nd rfl (Or.inl rfl))) (fun _ _ _ _ _ => pts_nil) (fun _ _ _ _ _ => (pe_dget1 (hu_of hr) (pv 1) (pv 7) ⟨by rfl, by rfl, by rfl, by rfl⟩)))
  (pss_cons (ps_if (pt_cmpR (op_inK (K := K)) pe_non (pv 5) (by rfl))
    (pss_one ps_continue)
    pss_nil)
  (pss_cons (ps_set (i := 6) sc_least_lengths.nd rfl (Or.inl rfl) (pe_op op_add (pe_op op_sub (pe_callB call_len_str (by rfl) T.z_len PySem.boot_len (pa_cons (pv 4) pa_nil)) (pe_callB (call_lenK (K := K)) (by rfl) T.z_len PySem.boot_len (pa_cons (pv 5) pa_nil))) (pe_callB (cr_sumK (K := K) (by rfl)) (by rfl) T.z_sum (by decide +kernel) (pa_cons (pv 5) pa_nil))))
  (pss_one (ps_if (PW.pt (pw_or (pt_cmp (pc_dnotin (hu_of hr) (pv 3) (pv 1)) (by rfl)) (pw_or1 (pt_cmpR op_lt (pv 6) (pe_dget (hu_of hr) (pv 1) (pv 3) (fun _ _ => rfl)) (nomark _)))))
    (pss_cons (ps_dput (hu_of hr) (pv 1) (pv 3) (pv 6) rfl)
  (pss_one (ps_set (i := 2) sc_least_lengths.nd rfl (Or.inl rfl) pe_bl)))
    pss_nil)))))))))
  (pss_one (ps_ret (pv 1)))))), ?_⟩
    intro d hd
    refine ⟨fun n σ H' => ∃ (b : Bool) (m : List (Nat × Nat)) (x3 x4 x5 x6 : Option V), σ = [some (.ref ra), some (.ref d), some (.bl b), x3, x4, x5, x6, none] ∧ LLd F H d m H' ∧ LLok m ∧
      ((b = true ∧ mu m < n ∧ rounds (llRound rules) n m = leastLengths rules) ∨ (b = false ∧ m = leastLengths rules)), ⟨llFuel, true, [], none, none, none, none, rfl, ⟨F, [], (Ext.refl sF).newM hd, sF.free hd, upd_same, .nil⟩, LLok.nil, .inl ⟨rfl, Nat.lt_succ_self _, rfl⟩⟩, ?_⟩
    rintro n σ H1 ⟨b, m, x3, x4, x5, x6, rfl, hD, hm, hb⟩
    refine ⟨_, rfl, b, rfl, ?_⟩
    rcases hb with ⟨rfl, hmu, hres⟩ | ⟨rfl, hres⟩
    · refine iteT ⟨fun σ' H' => ∃ n', n' < n ∧ ∃ (b : Bool) (m : List (Nat × Nat)) (x3 x4 x5 x6 : Option V), σ' = [some (.ref ra), some (.ref d), some (.bl b), x3, x4, x5, x6, none] ∧ LLd F H d m H' ∧ LLok m ∧
        ((b = true ∧ mu m < n' ∧ rounds (llRound rules) n' m = leastLengths rules) ∨ (b = false ∧ m = leastLengths rules)), fun _ _ h => h, ?_⟩
      -- changed = False; for name, body in rules
      obtain ⟨F1, kvs1, e1, fd1, hd1, ad1⟩ := hD
      refine ⟨_, rfl, ra, rfl, ⟨_, SqL.of (e1.sm _ _ hra)⟩, for_list (K := K) (a := ra) (xs := rvs) (fun i σ H' => ∃ (x3 x4 x5 x6 : Option V),
        σ = [some (.ref ra), some (.ref d), some (.bl ((rules.take i).foldl llStep (m, false)).2), x3, x4, x5, x6, none] ∧ LLd F H d ((rules.take i).foldl llStep (m, false)).1 H')
        ⟨x3, x4, x5, x6, rfl, F1, kvs1, e1, fd1, hd1, ad1⟩ (fun i σ H' _ h => ?_) ?_ ?_⟩
      · obtain ⟨_, _, _, _, _, F', _, e, _⟩ := h
        exact SqL.of (e.sm _ _ hra)
      · rintro i y σ H2 hy ⟨x3, x4, x5, x6, rfl, F2, kvs, e2, fd2, hd2, ad2⟩
        obtain ⟨r, t, hr', rfl, ht⟩ := rule_at hal hy
        have hrok := hok r (List.mem_of_getElem? hr')
        have lok : LLok ((rules.take i).foldl llStep (m, false)).1 := (llFold (m, false) (fun x hx => ⟨(hok x (List.mem_of_mem_take hx)).1, (hok x (List.mem_of_mem_take hx)).2.1⟩) hm).1
        have hst := foldl_more (f := llStep) (b := (m, false)) hr'
        generalize (rules.take i).foldl llStep (m, false) = st at hst ad2 lok ⊢
        obtain ⟨m2, b2⟩ := st
        -- name, body = the rule
        refine ⟨t, _, rfl, SqT.of (e2.sm _ _ ht), rfl, _, _, rfl, _, _, rfl, rfl, ?_⟩
        -- parts = [lengths.get(part) for part in names_in(body)]
        refine ⟨_, rfl, F2, _, r.2, rfl, e2.fh, rfl, by have := hrok.2.1; omega, fun v F3 H3 e3 hv => ?_⟩
        obtain ⟨la, lvs, rfl, hla, hlal⟩ := hv
        have hlv : lvs = (namesIn r.2).map fun c => V.str (S [c]) := by rw [hlal.strs]; show List.map _ (ch1 _) = _; rw [List.map_map]; rfl
        have hnl : (namesIn r.2).length ≤ 4 := Nat.le_trans (namesIn_le _) hrok.2.1
        refine ⟨la, rfl, ⟨_, SqL.of (e3.fh _ _ hla)⟩, fun D hD => ?_⟩
        refine lc_list (K := K) (a := la) (xs := lvs) (LcI (rO rNat) F3 H3 D fun j => ((namesIn r.2).take j).map fun c => aGet m2 c) (LcI.start e3.fh hD rfl) (fun j H' _ h => ?_) ?_ ?_
        · obtain ⟨F', ws, e, _⟩ := h
          exact SqL.of (e.sm _ _ hla)
        · rintro j z H4 hj ⟨F4, ws, e4, f4, hD4, al4⟩
          obtain ⟨c, hc, rfl⟩ : ∃ c, (namesIn r.2)[j]? = some c ∧ z = V.str (S [c]) := by
            rw [hlv, List.getElem?_map] at hj
            cases q : (namesIn r.2)[j]? with
            | none => rw [q] at hj; cases hj
            | some c => rw [q] at hj; exact ⟨c, rfl, (Option.some.inj hj).symm⟩
          have hjl : j < (namesIn r.2).length := (List.getElem?_eq_some_iff.mp hc).1
          have hd4 : H4 d = some (.dK kvs) := e4.hh _ _ (e3.hh _ _ hd2)
          refine ⟨rfl, _, rfl, d, rfl, Or.inl ⟨kvs, Rd.of hd4⟩, _, rfl, _, DGet.k (k := encN c) hd4, ?_⟩
          have hz : (((namesIn r.2).take j).map fun c => aGet m2 c).length < sizeLine := by rw [List.length_map, List.length_take, sl64]; omega
          rcases AD.get encN_inj c ad2 with ⟨h1, h2⟩ | ⟨x, v, h1, h2, h3⟩
          · rw [h2]
            exact LcI.yes none hD e4 f4 hD4 al4 (Ext.refl e4.fh) rfl (by rw [map_more hc, h1]) hz
          · rw [h2]
            exact LcI.yes (some x) hD e4 f4 hD4 al4 (Ext.refl e4.fh) (Mono.mono (r := rNat) (e3.ff.trans e4.ff) h3) (by rw [map_more hc, h1]) hz
        · intro H5 h5
          obtain ⟨F5, vs5, e5, fD5, al5⟩ := h5.frz hD
          rw [show lvs.length = (namesIn r.2).length by rw [hlv, List.length_map], List.take_length] at al5
          obtain ⟨o1, o2, o3⟩ := al5.opts
          have hos : (((namesIn r.2).map fun c => aGet m2 c).all fun o => o.isSome) = allIn m2 r.2 := by rw [List.all_map]; rfl
          rw [hos] at o2 o3
          have e25 : Ext F2 H2 F5 H5 := e3.trans e5
          have hd5 : H5 d = some (.dK kvs) := e25.hh _ _ hd2
          have fd5 : F5 d = none := e25.nf d (by rw [hd2]; simp) fd2
          -- if None in parts: continue
          refine ⟨_, rfl, D, vs5, rfl, .inl (SqL.of (e5.fh _ _ fD5)), rfl, o1, _, rfl, ?_⟩
          rw [if_neg Bool.false_ne_true, o2]
          cases hal2 : allIn m2 r.2 with
          | false =>
            refine iteT ⟨some (.str (S [r.1])), some (.str (S r.2)), some (.ref D), x6, ?_, F5, kvs, e2.trans e25, fd5, hd5, ?_⟩
            · rw [hst]; unfold llStep; rw [hal2]; rfl
            · rw [hst]; unfold llStep; rw [hal2]; exact ad2.mono e25.ff
          | true =>
            refine iteF ?_
            have hvs5 := o3 hal2
            have hlen5 : vs5.length = (namesIn r.2).length := by rw [hvs5, List.length_map, List.length_map, List.length_map]
            have etot : (((S r.2).length : Nat) : Int) - ((vs5.length : Nat) : Int) + ((((namesIn r.2).map fun c => aGet m2 c).map fun o => ((o.getD 0 : Nat) : Int)).sum) = ((total m2 r.2 : Nat) : Int) := by
              have q := sum_ints ((namesIn r.2).map fun c => (aGet m2 c).getD 0)
              rw [List.map_map] at q ⊢
              have q2 : ((namesIn r.2).map ((fun o => ((o.getD 0 : Nat) : Int)) ∘ fun c => aGet m2 c)).sum = ((((namesIn r.2).map fun c => (aGet m2 c).getD 0).sum : Nat) : Int) := q
              rw [q2, hlen5, S_len]
              unfold total
              have := namesIn_le r.2
              omega
            -- total = ..
            refine ⟨_, rfl, _, rfl, by rw [S_len, sl64]; have := hrok.2.1; omega, _, rfl, D, vs5, rfl, .inl (SqL.of (e5.fh _ _ fD5)), _, _, rfl, rfl, _, rfl, D, ((namesIn r.2).map fun c => aGet m2 c).map fun o => ((o.getD 0 : Nat) : Int), rfl, SqL.of (by rw [← hvs5]; exact e5.fh _ _ fD5), _, _, rfl, rfl, ?_⟩
            dsimp only
            rw [etot]
            -- if name not in lengths or total < lengths[name]
            refine ⟨_, rfl, _, rfl, d, _, rfl, DGet.k (k := encN r.1) hd5, _, rfl, ?_⟩
            have fin1 : better m2 r = true → ∃ (x3 x4 x5 x6 : Option V), [some (V.ref ra), some (.ref d), some (.bl true), some (.str (S [r.1])), some (.str (S r.2)), some (.ref D), some (.int ((total m2 r.2 : Nat) : Int)), none] = [some (V.ref ra), some (.ref d), some (.bl ((rules.take (i + 1)).foldl llStep (m, false)).2), x3, x4, x5, x6, none] ∧
                LLd F H d ((rules.take (i + 1)).foldl llStep (m, false)).1 (upd H5 d (.dK (putK kvs (encN r.1) (.int ((total m2 r.2 : Nat) : Int))))) := fun hb => by
              rw [hst]
              unfold llStep
              rw [hal2, if_pos rfl, hb, if_pos rfl]
              exact ⟨_, _, _, _, rfl, F5, _, (e2.trans e25).set hd fd5, fd5, upd_same, (ad2.mono e25.ff).put encN_inj (r := rNat) rfl⟩
            have fin2 : better m2 r = false → ∃ (x3 x4 x5 x6 : Option V), [some (V.ref ra), some (.ref d), some (.bl b2), some (.str (S [r.1])), some (.str (S r.2)), some (.ref D), some (.int ((total m2 r.2 : Nat) : Int)), none] = [some (V.ref ra), some (.ref d), some (.bl ((rules.take (i + 1)).foldl llStep (m, false)).2), x3, x4, x5, x6, none] ∧
                LLd F H d ((rules.take (i + 1)).foldl llStep (m, false)).1 H5 := fun hb => by
              rw [hst]
              unfold llStep
              rw [hal2, if_pos rfl, hb, if_neg Bool.false_ne_true]
              exact ⟨_, _, _, _, rfl, F5, kvs, e2.trans e25, fd5, hd5, ad2.mono e25.ff⟩
            have hkz : kvs.length < sizeLine := by
              have := lok.few
              have := ad2.len
              rw [sl64]
              omega
            rcases AD.get encN_inj r.1 ad2 with ⟨h1, h2⟩ | ⟨x, v, h1, h2, h3⟩
            · rw [h2]
              refine iteT (iteT ?_)
              refine ⟨_, rfl, _, rfl, _, rfl, d, _, rfl, DPut.k (k := encN r.1) hd5 hkz, ?_⟩
              exact fin1 (by unfold better; rw [show aGet m2 r.1 = none from h1])
            · rw [h2]
              refine iteF ?_
              refine ⟨_, rfl, _, rfl, _, rfl, d, v, rfl, ?_, ?_⟩
              · rw [← h2]; exact DGet.k (k := encN r.1) hd5
              · have hv : v = .int (x : Int) := h3
                subst hv
                refine ⟨_, _, rfl, rfl, _, rfl, ?_⟩
                have hbt : better m2 r = decide (total m2 r.2 < x) := by unfold better; rw [show aGet m2 r.1 = some x from h1]
                by_cases hlt : total m2 r.2 < x
                · rw [decide_eq_true (show ((total m2 r.2 : Nat) : Int) < (x : Int) by omega)]
                  refine iteT ⟨_, rfl, _, rfl, _, rfl, d, _, rfl, DPut.k (k := encN r.1) hd5 hkz, ?_⟩
                  exact fin1 (by rw [hbt, decide_eq_true hlt])
                · rw [decide_eq_false (show ¬ ((total m2 r.2 : Nat) : Int) < (x : Int) by omega)]
                  refine iteF ?_
                  exact fin2 (by rw [hbt, decide_eq_false hlt])
      · rintro σ H6 ⟨x3, x4, x5, x6, rfl, F6, kvs6, e6, fd6, hd6, ad6⟩
        rw [hal.len, List.take_length] at ad6
        rw [show rvs.length = rules.length from hal.len, List.take_length]
        obtain ⟨l1, l2, l3, l4⟩ := llFold (rules := rules) (m, false) (fun x hx => ⟨(hok x hx).1, (hok x hx).2.1⟩) hm
        obtain ⟨n, rfl⟩ : ∃ n', n = n' + 1 := ⟨n - 1, by omega⟩
        have hround : llRound rules m = rules.foldl llStep (m, false) := rfl
        refine ⟨n, Nat.lt_succ_self _, _, _, _, _, _, _, rfl, ⟨F6, kvs6, e6, fd6, hd6, ad6⟩, l1, ?_⟩
        unfold rounds at hres
        rw [hround] at hres
        cases hb : (rules.foldl llStep (m, false)).2 with
        | true =>
          rw [hb, if_pos rfl] at hres
          have := l3 rfl hb
          have e0 : mu (m, false).1 = mu m := rfl
          rw [e0] at this
          exact .inl ⟨rfl, by omega, hres⟩
        | false =>
          rw [hb, if_neg Bool.false_ne_true] at hres
          exact .inr ⟨rfl, hres⟩
    · refine iteF ⟨_, rfl, ?_⟩
      obtain ⟨F1, kvs1, e1, fd1, hd1, ad1⟩ := hD
      rw [← hres] at k
      exact k _ _ H1 (e1.frz hd hd1 fd1) ⟨d, kvs1, rfl, upd_same, ad1.mono (fun b u q => by rw [upd_ne (ne_of_none q fd1)]; exact q)⟩
end
end SF
namespace SF
open PySem PySem.Spec PyProof.Rows L2
section
variable {K : PySem.W.Frag}
/-- [part in d for part in names_in(body)] -/
theorem all_in_lc {α : Type} {r : Rl α} [Mono r] {σ : L2.St} {i j dS : Nat} {F H : Hp} {d : Addr} {kvs : List (Key × V)} {m : List (Nat × α)} {b : List Nat} {Q : VK}
    (hi : σ[i]? = some (some (V.str (S b)))) (hd : ∀ v, ((wipe σ [j]).set j (some v))[dS]? = some (some (V.ref d))) (hj : ∀ v : V, ((wipe σ [j]).set j (some v))[j]? = some (some v))
    (hw : ∀ v, wipe ((wipe σ [j]).set j (some v)) [j] = wipe σ [j]) (sF : Same F H) (hH : Rd H d (.dK kvs)) (hfr : ∀ H', Same H H' → Rd H' d (.dK kvs)) (ad : AD encN r F kvs m) (hb : b.length ≤ 1000000)
    (k : ∀ D F' H', Ext F H F' H' → F' D = some (.lst (((namesIn b).map fun c => (aGet m c).isSome).map V.bl)) → Q (.ref D) H') :
    tLc (iList K (tCall sp_names_in [] E0 (tCons (tVar i) tNil))) (gName j) tYes (tDIn (tVar j) (tVar dS)) [j] σ H Q := by
  refine ⟨_, hi, F, _, b, rfl, sF, rfl, hb, fun v F3 H3 e3 hv => ?_⟩
  obtain ⟨la, lvs, rfl, hla, hlal⟩ := hv
  have hlv : lvs = (namesIn b).map fun c => V.str (S [c]) := by rw [hlal.strs]; show List.map _ (ch1 _) = _; rw [List.map_map]; rfl
  refine ⟨la, rfl, ⟨_, SqL.of (e3.fh _ _ hla)⟩, fun D hD => ?_⟩
  refine lc_list (K := K) (a := la) (xs := lvs) (LcI rB F3 H3 D fun n => ((namesIn b).take n).map fun c => (aGet m c).isSome) (LcI.start e3.fh hD rfl) (fun n H' _ h => ?_) ?_ ?_
  · obtain ⟨F', ws, e, _⟩ := h
    exact SqL.of (e.sm _ _ hla)
  · rintro n z H4 hz ⟨F4, ws, e4, f4, hD4, al4⟩
    obtain ⟨c, hc, rfl⟩ : ∃ c, (namesIn b)[n]? = some c ∧ z = V.str (S [c]) := by
      rw [hlv, List.getElem?_map] at hz
      cases q : (namesIn b)[n]? with
      | none => rw [q] at hz; cases hz
      | some c => rw [q] at hz; exact ⟨c, rfl, (Option.some.inj hz).symm⟩
    have hnl : n < (namesIn b).length := (List.getElem?_eq_some_iff.mp hc).1
    have hnb := namesIn_le b
    have hd4 : Rd H4 d (.dK kvs) := hfr H4 (e3.hh.trans e4.hh)
    refine ⟨hw _, _, hj _, _, hd _, d, _, rfl, .inl ⟨kvs, encN c, hd4, rfl, rfl⟩, ?_⟩
    have hzz : (((namesIn b).take n).map fun c => (aGet m c).isSome).length < sizeLine := by rw [List.length_map, List.length_take, sl64]; omega
    have e1 : (valV kvs (encN c)).isSome = (aGet m c).isSome := by
      rcases AD.get encN_inj c ad with ⟨h1, h2⟩ | ⟨x, v, h1, h2, h3⟩
      · rw [h1, h2]; rfl
      · rw [h1, h2]; rfl
    rw [e1]
    exact LcI.yes _ hD e4 f4 hD4 al4 (Ext.refl e4.fh) rfl (map_more hc) hzz
  · intro H5 h5
    obtain ⟨F5, vs5, e5, fD5, al5⟩ := h5.frz hD
    rw [show lvs.length = (namesIn b).length by rw [hlv, List.length_map], List.take_length] at al5
    exact k D F5 H5 (e3.trans e5) (by rw [fD5, al5.bls])
end
def sp_useful_numbers : Sp := Pu3 (rL rRule) rC (rD encN rNat) (fun rules root _ => RulesOk rules ∧ nam root = true ∧ rules.length ≤ 16) (rL rNat) usefulNumbers
section
variable {P : Program} {w : World} {K : PySem.W.Frag} {mg : Str → Option Value} {base : Heap} {a : Ad}
theorem ok_useful_numbers (T : Txt K mg a) : FnOk P w K mg base CX0 3 a.useful_numbers a.d_useful_numbers ["rules", "root", "lengths"] sp_useful_numbers := by
  have G_names_in := ok_names_in (P := P) (w := w) (base := base) T
  refine T.f_useful_numbers.ok sc_useful_numbers (fun vs H Q E h => ?_) (fun cdv A outer s H vs Q E hr h => ?_)
  · obtain ⟨F, v0, v1, v2, x, y, z, rfl, _⟩ := h; rfl
  · obtain ⟨F, _, _, _, rules, root, lens, rfl, sF, ⟨ra, rvs, rfl, hra, hal⟩, rfl, ⟨d, kvs, rfl, hd, ad⟩, ⟨hok, hroot, h16⟩, k⟩ := h
    refine ⟨_, (pss_cons (ps_set (i := 3) sc_useful_numbers.nd rfl (Or.inr rfl) (pe_lst (pa_cons (pv 1) pa_nil)))
  (pss_cons (ps_set (i := 4) sc_useful_numbers.nd rfl (Or.inl rfl) pe_int)
  (pss_cons (ps_while PassesOwn.never (pt_cmpR op_lt (pv 4) (pe_callB (call_lenK (K := K)) (by rfl) T.z_len PySem.boot_len (pa_cons (pv 3) pa_nil)) (nomark _))
    (pss_cons (ps_for PassesOwn.never rfl (pi_listK (K := K) (pv 0)) (pg_tupK (K := K) (n := 2) (by rfl) (pgs_cons (pg_name (i := 5) sc_useful_numbers.nd rfl (Or.inl rfl)) (pgs_cons (pg_name (i := 6) sc_useful_numbers.nd rfl (Or.inl rfl)) pgs_nil)))
    (pss_one (ps_if (PW.pt (pw_and (pt_cmpR op_eq (pv 5) (pe_ix (ix_listK (K := K)) (pv 3) (pv 4) (fun _ _ => rfl)) (nomark _)) (pw_and1 (pt_val (pe_callB (cr_allK (K := K) (by rfl)) (by rfl) T.z_all (by decide +kernel) (pa_cons (pe_lc (own := [("part", 7)]) (g := gName 7) (tt := tYes) (by rfl) sc_useful_numbers.nd (pi_listK (K := K) (pe_call G_names_in (hr.mono (by decide)) (by rfl) T.m_names_in T.f_names_in.kp T.b_names_in .nil pass0 (pa_cons (pv 6) pa_nil))) (blkOk_by (own := [("part", 7)]) (N := n_useful_numbers) (sc := (defScope s_useful_numbers)) (by decide +kernel)) (fun _ _ _ _ _ => (pg_name (i := 7) sc_useful_numbers.nd rfl (Or.inl rfl))) (fun _ _ _ _ _ => pts_nil) (fun _ _ _ _ _ => (pe_cmp (pc_din (hu_of hr) (pv 7) (pv 2)) (by rfl)))) pa_nil))))))
    (pss_one (ps_expr (pe_bmK (K := K) PySem.F.plainAttrs_list PySem.F.slot_list_extend PySem.F.type_list_extend mt_extend (pv 3) (pa_cons (pe_lc (own := [("part", 7)]) (g := gName 7) (by rfl) sc_useful_numbers.nd (pi_listK (K := K) (pe_callB (cr_sortedSetK (P := P) (w := w) (by rfl)) (by rfl) T.z_sorted (by decide +kernel) (pa_cons (pe_callTy (cr_setOfK (K := K) (P := P) (w := w) (by rfl)) (by rfl) T.z_set (by decide +kernel) (pa_cons (pe_call G_names_in (hr.mono (by decide)) (by rfl) T.m_names_in T.f_names_in.kp T.b_names_in .nil pass0 (pa_cons (pv 6) pa_nil)) pa_nil)) pa_nil))) (blkOk_by (own := [("part", 7)]) (N := n_useful_numbers) (sc := (defScope s_useful_numbers)) (by decide +kernel)) (fun _ _ _ _ _ => (pg_name (i := 7) sc_useful_numbers.nd rfl (Or.inl rfl))) (fun _ _ _ _ _ => (pts_one (pt_cmpR (op_notInK (K := K)) (pv 7) (pv 3) (by rfl)))) (fun _ _ _ _ _ => (pv 7))) pa_nil))))
    pss_nil)))
  (pss_one (ps_aug (i := 4) sc_useful_numbers.nd rfl (Or.inl rfl) pe_int ip_add))))
  (pss_one (ps_ret (pe_lc (own := [("number", 8), ("name", 5), ("body", 6)]) (by rfl) sc_useful_numbers.nd (pi_enumK (K := K) (by rfl) T.z_enumerate (pa_cons (pv 0) pa_nil)) (blkOk_by (own := [("number", 8), ("name", 5), ("body", 6)]) (N := n_useful_numbers) (sc := (defScope s_useful_numbers)) (by decide +kernel)) (fun _ _ _ _ _ => (pg_tupK (K := K) (n := 2) (by rfl) (pgs_cons (pg_name (i := 8) sc_useful_numbers.nd rfl (Or.inl rfl)) (pgs_cons (pg_tupK (K := K) (n := 2) (by rfl) (pgs_cons (pg_name (i := 5) sc_useful_numbers.nd rfl (Or.inl rfl)) (pgs_cons (pg_name (i := 6) sc_useful_numbers.nd rfl (Or.inl rfl)) pgs_nil))) pgs_nil)))) (fun _ _ _ _ _ => (pts_one (PW.pt (pw_and (pt_cmpR (op_inK (K := K)) (pv 5) (pv 3) (by rfl)) (pw_and1 (pt_val (pe_callB (cr_allK (K := K) (by rfl)) (by rfl) T.z_all (by decide +kernel) (pa_cons (pe_lc (own := [("part", 7)]) (g := gName 7) (tt := tYes) (by rfl) sc_useful_numbers.nd (pi_listK (K := K) (pe_call G_names_in (hr.mono (by decide)) (by rfl) T.m_names_in T.f_names_in.kp T.b_names_in .nil pass0 (pa_cons (pv 6) pa_nil))) (blkOk_by (own := [("part", 7)]) (N := n_useful_numbers) (sc := (relS { kind := .function, names := [(".0", .local), ("number", .local), ("name", .local), ("body", .local), ("all", .globalImplicit), ("names_in", .globalImplicit), ("lengths", .free), ("reached", .free)], isGenerator := false, isCoroutine := false } (defScope s_useful_numbers))) (by decide +kernel)) (fun _ _ _ _ _ => (pg_name (i := 7) sc_useful_numbers.nd rfl (Or.inl rfl))) (fun _ _ _ _ _ => pts_nil) (fun _ _ _ _ _ => (pe_cmp (pc_din (hu_of hr) (pv 7) (pv 2)) (by rfl)))) pa_nil)))))))) (fun _ _ _ _ _ => (pv 8)))))))), ?_⟩
    refine ⟨_, rfl, by show 1 ≤ sizeLine; rw [sl64]; omega, fun l hl => ?_⟩
    have RL0 : ∃ F', Ext F H F' (upd H l (.lst [vc root])) ∧ F' l = none ∧ (upd H l (.lst [vc root])) l = some (.lst ([root].map vc)) := ⟨F, (Ext.refl sF).newM hl, sF.free hl, upd_same⟩
    refine ⟨fun n σ H' => ∃ (re : List Nat) (i : Nat) (x5 x6 : Option V), σ = [some (.ref ra), some (vc root), some (.ref d), some (.ref l), some (vn i), x5, x6, none, none] ∧
      (∃ F', Ext F H F' H' ∧ F' l = none ∧ H' l = some (.lst (re.map vc))) ∧ NmOk re ∧ n + i = 27 ∧ i ≤ re.length ∧ ureach rules lens n re i = reached rules root lens,
      ⟨27, [root], 0, none, none, rfl, RL0, ⟨by simp, by simpa using hroot⟩, rfl, Nat.zero_le _, rfl⟩, ?_⟩
    rintro n σ H1 ⟨re, i, x5, x6, rfl, ⟨F1, e1, fl1, hl1⟩, hre, hni, hile, hres⟩
    have hfew := hre.few
    refine ⟨_, rfl, _, rfl, l, _, rfl, .inl (SqL.of hl1), _, _, rfl, rfl, _, rfl, ?_⟩
    rw [List.length_map]
    by_cases hlt : i < re.length
    · rw [decide_eq_true (show ((i : Nat) : Int) < ((re.length : Nat) : Int) by omega)]
      obtain ⟨c, hc⟩ : ∃ c, re[i]? = some c := ⟨re[i], List.getElem?_eq_getElem hlt⟩
      obtain ⟨n, rfl⟩ : ∃ n', n = n' + 1 := ⟨n - 1, by omega⟩
      refine iteT ⟨fun σ' H' => ∃ n', n' < n + 1 ∧ ∃ (re : List Nat) (i : Nat) (x5 x6 : Option V), σ' = [some (.ref ra), some (vc root), some (.ref d), some (.ref l), some (vn i), x5, x6, none, none] ∧
        (∃ F', Ext F H F' H' ∧ F' l = none ∧ H' l = some (.lst (re.map vc))) ∧ NmOk re ∧ n' + i = 27 ∧ i ≤ re.length ∧ ureach rules lens n' re i = reached rules root lens, fun _ _ h => h, ?_⟩
      refine ⟨_, rfl, ra, rfl, ⟨_, SqL.of (e1.sm _ _ hra)⟩, for_list (K := K) (a := ra) (xs := rvs) (fun j σ H' => ∃ (x5 x6 : Option V),
        σ = [some (.ref ra), some (vc root), some (.ref d), some (.ref l), some (vn i), x5, x6, none, none] ∧ ∃ F', Ext F H F' H' ∧ F' l = none ∧ H' l = some (.lst (((rules.take j).foldl (uStep lens c) re).map vc)))
        ⟨x5, x6, rfl, F1, e1, fl1, hl1⟩ (fun j σ H' _ h => ?_) ?_ ?_⟩
      · obtain ⟨_, _, _, F', e, _⟩ := h
        exact SqL.of (e.sm _ _ hra)
      · rintro j y σ H2 hy ⟨x5, x6, rfl, F2, e2, fl2, hl2⟩
        obtain ⟨r, t, hr', rfl, ht⟩ := rule_at hal hy
        have hrok := hok r (List.mem_of_getElem? hr')
        have hst := foldl_more (f := uStep lens c) (b := re) hr'
        have hpre : re <+: (rules.take j).foldl (uStep lens c) re := uFold_pre
        have hok2 : NmOk ((rules.take j).foldl (uStep lens c) re) := uFold_ok hre
        generalize (rules.take j).foldl (uStep lens c) re = re2 at hst hl2 hpre hok2 ⊢
        have hc2 : re2[i]? = some c := by
          obtain ⟨q, rfl⟩ := hpre
          rw [List.getElem?_append_left hlt]; exact hc
        refine ⟨t, _, rfl, SqT.of (e2.sm _ _ ht), rfl, _, _, rfl, _, _, rfl, rfl, ?_⟩
        -- if name == reached[index]
        refine ⟨_, rfl, _, rfl, _, rfl, l, _, _, _, rfl, rfl, SqL.of hl2, at_of (j := i) (v := vc c) rfl (map_get' hc2), rfl, _, rfl, ?_⟩
        rw [dec_cc]
        by_cases h1 : r.1 = c
        · rw [decide_eq_true h1]
          refine iteT ?_
          unfold tB tCB tCons
          refine all_in_lc (K := K) (σ := [some (.ref ra), some (vc root), some (.ref d), some (.ref l), some (vn i), some (vc r.1), some (.str (S r.2)), none, none]) (i := 6) (j := 7) (dS := 2) (r := rNat) (m := lens) (b := r.2) (d := d) (kvs := kvs) rfl (fun _ => rfl) (fun _ => rfl) (fun _ => rfl) e2.fh (Rd.of (e2.sm _ _ hd)) (fun H' s => Rd.of (s _ _ (e2.sm _ _ hd))) (ad.mono e2.ff) (by have := hrok.2.1; omega) fun D F3 H3 e3 fD3 => ?_
          refine ⟨D, _, rfl, SqL.of (e3.fh _ _ fD3), _, rfl, ?_⟩
          have e23 := e2.trans e3
          have hl3 := e3.hh _ _ hl2
          have fl3 : F3 l = none := e3.nf l (by rw [hl2]; simp) fl2
          have q1 : (((namesIn r.2).map fun c => (aGet lens c).isSome).all id) = allIn lens r.2 := by rw [List.all_map]; rfl
          rw [q1]
          cases hall : allIn lens r.2 with
          | false =>
            refine iteF ⟨_, _, rfl, F3, e23, fl3, ?_⟩
            rw [hl3, hst]; unfold uStep; rw [if_neg (by rw [hall]; simp)]
          | true =>
            refine iteT ?_
            -- reached.extend([part for part in sorted(set(names_in(body))) if part not in reached])
            refine ⟨_, rfl, .inl ⟨rfl, _, SqL.of hl3⟩, ?_⟩
            refine ⟨_, rfl, F3, _, r.2, rfl, e3.fh, rfl, by have := hrok.2.1; omega, fun v F4 H4 e4 hv => ?_⟩
            obtain ⟨la, lvs, rfl, hla, hlal⟩ := hv
            have hlv : lvs = ((namesIn r.2).map fun c => S [c]).map V.str := by rw [hlal.strs]; show List.map _ (ch1 _) = _; rw [List.map_map, List.map_map]; rfl
            have hnl : (namesIn r.2).length ≤ 4 := Nat.le_trans (namesIn_le _) hrok.2.1
            refine ⟨la, (namesIn r.2).map fun c => S [c], rfl, SqL.of (by rw [← hlv]; exact e4.fh _ _ hla), by rw [List.length_map]; omega, fun p1 hp1 => ?_⟩
            rw [List.length_map]
            refine ⟨p1, _, rfl, upd_same, by have := met_len ((namesIn r.2).map fun c => S [c]) (namesIn r.2).length; omega, fun ys p2 nd hm hs hyl hp2 => ?_⟩
            have hys := sorted_names (b := r.2) nd hm (fun x => by rw [met_mem, show (namesIn r.2).length = ((namesIn r.2).map fun c => S [c]).length by rw [List.length_map], List.take_length]) hs
            subst hys
            rw [List.map_map] at *
            have e5 := (e4.newM hp1 (o := TSO P w p1 (met ((namesIn r.2).map fun c => S [c]) (namesIn r.2).length))).newF hp2 (o := .lst ((sortedNames r.2).map vc))
            refine ⟨p2, rfl, ⟨_, SqL.of upd_same⟩, fun D2 hD2 => ?_⟩
            refine lc_list (K := K) (a := p2) (xs := (sortedNames r.2).map vc) (LcI rC _ _ D2 fun n => ((sortedNames r.2).take n).filter fun x => decide (x ∉ re2)) (LcI.start e5.fh hD2 rfl) (fun n H' _ h => ?_) ?_ ?_
            · obtain ⟨F', ws, e, _⟩ := h
              exact SqL.of (e.sm _ _ upd_same)
            · rintro n y H6 hy ⟨F6, ws, e6, f6, hD6, al6⟩
              obtain ⟨q, hq, rfl⟩ := map_get hy
              have hl6 : H6 l = some (.lst (re2.map vc)) := e6.hh _ _ (e5.hh _ _ hl3)
              refine ⟨rfl, _, rfl, _, rfl, l, _, rfl, .inl (SqL.of hl6), rfl, (inV_cs q re2).1, _, rfl, ?_⟩
              rw [(inV_cs q re2).2]
              by_cases hin : q ∈ re2
              · rw [decide_eq_true hin]
                refine iteF ?_
                exact LcI.no e6 f6 hD6 al6 (Ext.refl e6.fh) (filter_no hq (by simp [hin]))
              · rw [decide_eq_false hin]
                refine iteT ?_
                have hzz : (((sortedNames r.2).take n).filter fun x => decide (x ∉ re2)).length < sizeLine := by
                  have h1 := List.length_filter_le (fun x => decide (x ∉ re2)) ((sortedNames r.2).take n)
                  rw [List.length_take] at h1
                  have h2 := nam_few (sortedNames_nodup r.2) fun x hx => letters_mem.mp (List.mem_filter.mp hx).1
                  rw [sl64]; omega
                refine ⟨_, rfl, ?_⟩
                exact LcI.yes _ hD2 e6 f6 hD6 al6 (Ext.refl e6.fh) rfl (filter_yes hq (by simp [hin])) hzz
            · intro H7 h7
              obtain ⟨F7, vs7, e7, fD7, al7⟩ := h7.frz hD2
              rw [List.length_map, List.take_length] at al7
              have E7 := (e23.trans e5).trans e7
              have hl7 : H7 l = some (.lst (re2.map vc)) := e7.hh _ _ (e5.hh _ _ hl3)
              have fl7 : F7 l = none := (e5.trans e7).nf l (by rw [hl3]; simp) fl3
              have hF := al7.cs
              refine ⟨l, D2, _, _, rfl, rfl, hl7, e7.fh _ _ fD7, ?_, ?_⟩
              · have h1 := List.length_filter_le (fun x => decide (x ∉ re2)) (sortedNames r.2)
                have h2 := nam_few (sortedNames_nodup r.2) fun x hx => letters_mem.mp (List.mem_filter.mp hx).1
                have h3 := hok2.few
                rw [hF, List.length_map, List.length_map, sl64]; omega
              · refine ⟨_, _, rfl, F7, E7.set hl fl7, fl7, ?_⟩
                rw [upd_same, hst, hF]
                unfold uStep
                rw [if_pos ⟨h1, hall⟩, List.map_append]
        · rw [decide_eq_false h1]
          refine iteF ⟨_, _, rfl, F2, e2, fl2, ?_⟩
          rw [hl2, hst]; unfold uStep; rw [if_neg (by simp [h1])]
      · rintro σ H6 ⟨x5, x6, rfl, F6, e6, fl6, hl6⟩
        rw [hal.len, List.take_length] at hl6
        have hpre := uFold_pre (lens := lens) (c := c) (rules := rules) (re := re)
        refine ⟨_, rfl, _, _, rfl, rfl, n, Nat.lt_succ_self _, _, i + 1, x5, x6, rfl, ⟨F6, e6, fl6, hl6⟩, uFold_ok hre, by omega, by have := hpre.length_le; omega, ?_⟩
        rw [← hres, ureach_some hc]
    · rw [decide_eq_false (show ¬ ((i : Nat) : Int) < ((re.length : Nat) : Int) by omega)]
      refine iteF ?_
      have hre' : re = reached rules root lens := by
        rw [← hres]
        exact (ureach_none (List.getElem?_eq_none (by omega))).symm
      refine ⟨_, rfl, ra, rvs, rfl, SqL.of (e1.sm _ _ hra), fun D hD => ?_⟩
      refine lc_it (walk_enum (K := K) (a := ra) (xs := rvs)) (LcI rNat _ _ D fun n => ((rules.zipIdx.take n).filter fun p => usefulAt re lens p.1).map (·.2)) (LcI.start e1.fh hD rfl) (fun n H' _ h => ?_) ?_ ?_
      · obtain ⟨F', ws, e, _⟩ := h
        exact SqL.of (e.sm _ _ (e1.ff _ _ hra))
      · rintro m y H4 H5 hm ⟨F4, ws, e4, f4, hD4, al4⟩ ⟨T5, x1, x2, rfl, hT5, rfl, hx1, hx2⟩
        obtain rfl := Option.some.inj hx1
        obtain ⟨r, t, hr', rfl, ht⟩ := rule_at hal hx2
        have hrok := hok r (List.mem_of_getElem? hr')
        have hz : rules.zipIdx[m]? = some (r, m) := by rw [List.getElem?_zipIdx, hr']; simp
        have E4 := e1.trans e4
        have e5 := e4.newM hT5 (o := .tup [.int (m : Nat), .ref t])
        have E5 := e1.trans e5
        have hD5 : (upd H4 T5 (.tup [V.int (m : Nat), .ref t])) D = some (.lst ws) := by rw [upd_ne (ne_of_none hD4 hT5)]; exact hD4
        have hl5 := e5.hh _ _ hl1
        refine ⟨T5, _, rfl, SqT.of upd_same, rfl, _, _, rfl, _, _, rfl, t, _, rfl, SqT.of (E5.sm _ _ ht), rfl, _, _, rfl, _, _, rfl, rfl, rfl, rfl, ?_⟩
        refine ⟨_, rfl, _, rfl, l, _, rfl, .inl (SqL.of hl5), rfl, (inV_cs r.1 re).1, _, rfl, ?_⟩
        rw [(inV_cs r.1 re).2]
        by_cases hin : r.1 ∈ re
        · rw [decide_eq_true hin]
          refine iteT ?_
          unfold tB tCB tCons
          refine all_in_lc (K := K) (σ := [some (.ref ra), some (vc root), some (.ref d), some (.ref l), some (vn i), some (vc r.1), some (.str (S r.2)), none, some (.int (m : Nat))]) (i := 6) (j := 7) (dS := 2) (r := rNat) (m := lens) (b := r.2) (d := d) (kvs := kvs) rfl (fun _ => rfl) (fun _ => rfl) (fun _ => rfl) e5.fh (Rd.of (E5.sm _ _ hd)) (fun H' s => Rd.of (s _ _ (E5.sm _ _ hd))) (ad.mono E5.ff) (by have := hrok.2.1; omega) fun D7 F7 H7 e7 fD7 => ?_
          refine ⟨D7, _, rfl, SqL.of (e7.fh _ _ fD7), _, rfl, ?_⟩
          rw [show (((namesIn r.2).map fun c => (aGet lens c).isSome).all id) = allIn lens r.2 by rw [List.all_map]; rfl]
          cases hall : allIn lens r.2 with
          | false =>
            refine iteF ?_
            refine LcI.no e4 f4 hD4 al4 ((Ext.refl e4.fh).newM hT5 |>.trans e7) ?_
            show (List.filter _ _).map _ = _
            rw [filter_no hz]
            show usefulAt re lens r = false
            unfold usefulAt; rw [hall, Bool.and_false]
          | true =>
            refine iteT ⟨_, rfl, ?_⟩
            refine LcI.yes m hD e4 f4 hD4 al4 ((Ext.refl e4.fh).newM hT5 |>.trans e7) rfl ?_ ?_
            · show (List.filter _ _).map _ = _
              rw [filter_yes hz, List.map_append]
              · rfl
              · show usefulAt re lens r = true
                unfold usefulAt; rw [hall, Bool.and_true, decide_eq_true hin]
            · rw [List.length_map]
              have h1 := List.length_filter_le (fun p : Rule × Nat => usefulAt re lens p.1) (rules.zipIdx.take m)
              rw [List.length_take, List.length_zipIdx] at h1
              rw [sl64]; omega
        · rw [decide_eq_false hin]
          refine iteF (iteF ?_)
          refine LcI.no e4 f4 hD4 al4 ((Ext.refl e4.fh).newM hT5) ?_
          show (List.filter _ _).map _ = _
          rw [filter_no hz]
          show usefulAt re lens r = false
          unfold usefulAt; rw [decide_eq_false hin, Bool.false_and]
      · intro H7 h7
        obtain ⟨F7, vs7, e7, fD7, al7⟩ := h7.frz hD
        rw [hal.len, ← List.length_zipIdx (l := rules) (i := 0), List.take_length] at al7
        refine k _ _ _ (e1.trans e7) ⟨D, vs7, rfl, fD7, ?_⟩
        unfold usefulNumbers
        rw [← hre']
        exact al7
end
end SF
namespace SF
open PySem PySem.Spec PyProof.Rows L2
abbrev rBest : Rl (Tri Nat (List Nat) Nat) := rT rNat rS rNat
def sp_least_derivations : Sp := Pu3 (rL rRule) (rL rNat) (rD encN rNat) (fun rules numbers lens => rules.length ≤ 16 ∧ numbers.length ≤ 16 ∧ ∀ n ∈ numbers, ∃ r, rules[n]? = some r ∧ RuOk lens r) (rD encN rBest) leastDerivations
section
variable {P : Program} {w : World} {K : PySem.W.Frag} {mg : Str → Option Value} {base : Heap} {a : Ad}
def LDd (F H : Hp) (d : Addr) (m : Best) (H' : Hp) : Prop := ∃ F' kvs, Ext F H F' H' ∧ F' d = none ∧ H' d = some (.dK kvs) ∧ AD encN rBest F' kvs m
theorem ok_least_derivations (T : Txt K mg a) : FnOk P w K mg base CX0 3 a.least_derivations a.d_least_derivations ["rules", "numbers", "lengths"] sp_least_derivations := by
  have G_names_in := ok_names_in (P := P) (w := w) (base := base) T
  have G_is_name := ok_is_name (P := P) (w := w) (base := base) T
  refine T.f_least_derivations.ok sc_least_derivations (fun vs H Q E h => ?_) (fun cdv A outer s H vs Q E hr h => ?_)
  · obtain ⟨F, v0, v1, v2, x, y, z, rfl, _⟩ := h; rfl
  · obtain ⟨F, _, _, _, rules, numbers, lens, rfl, sF, ⟨ra, rvs, rfl, hra, hal⟩, ⟨na, nvs, rfl, hna, hnl⟩, ⟨dl, lkvs, rfl, hdl, adl⟩, ⟨h16, hn16, hok⟩, k⟩ := h
    refine ⟨_, (pss_cons (ps_set (i := 3) sc_least_derivations.nd rfl (Or.inr rfl) pe_dnewK)
  (pss_cons (ps_set (i := 4) sc_least_derivations.nd rfl (Or.inl rfl) pe_bl)
  (pss_cons (ps_while PassesOwn.never (pt_val (pv 4))
    (pss_cons (ps_set (i := 4) sc_least_derivations.nd rfl (Or.inl rfl) pe_bl)
  (pss_one (ps_for PassesOwn.never rfl (pi_listK (K := K) (pv 1)) (pg_name (i := 5) sc_least_derivations.nd rfl (Or.inl rfl))
    (pss_cons (ps_asg (pe_ix (ix_listK (K := K)) (pv 0) (pv 5) (fun _ _ => rfl)) (pg_tupK (K := K) (n := 2) (by rfl) (pgs_cons (pg_name (i := 6) sc_least_derivations.nd rfl (Or.inl rfl)) (pgs_cons (pg_name (i := 7) sc_least_derivations.nd rfl (Or.inl rfl)) pgs_nil))))
  (pss_cons (ps_set (i := 8) sc_least_derivations.nd rfl (Or.inl rfl) (pe_call G_names_in (hr.mono (by decide)) (by rfl) T.m_names_in T.f_names_in.kp T.b_names_in .nil pass0 (pa_cons (pv 7) pa_nil)))
  (pss_cons (ps_set (i := 9) sc_least_derivations.nd rfl (Or.inl rfl) (pe_op op_add (pe_op op_sub (pe_callB call_len_str (by rfl) T.z_len PySem.boot_len (pa_cons (pv 7) pa_nil)) (pe_callB (call_lenK (K := K)) (by rfl) T.z_len PySem.boot_len (pa_cons (pv 8) pa_nil))) (pe_callB (cr_sumK (K := K) (by rfl)) (by rfl) T.z_sum (by decide +kernel) (pa_cons (pe_lc (own := [("part", 12)]) (g := gName 12) (tt := tYes) (by rfl) sc_least_derivations.nd (pi_listK (K := K) (pv 8)) (blkOk_by (own := [("part", 12)]) (N := n_least_derivations) (sc := (defScope s_least_derivations)) (by decide +kernel)) (fun _ _ _ _ _ => (pg_name (i := 12) sc_least_derivations.nd rfl (Or.inl rfl))) (fun _ _ _ _ _ => pts_nil) (fun _ _ _ _ _ => (pe_dget (hu_of hr) (pv 2) (pv 12) (fun _ _ => rfl)))) pa_nil))))
  (pss_cons (ps_if (PW.pt (pw_or (pt_cmpR op_ne (pv 9) (pe_dget (hu_of hr) (pv 2) (pv 6) (fun _ _ => rfl)) (nomark _)) (pw_or1 (pt_not (pt_val (pe_callB (cr_allK (K := K) (by rfl)) (by rfl) T.z_all (by decide +kernel) (pa_cons (pe_lc (own := [("part", 12)]) (g := gName 12) (tt := tYes) (by rfl) sc_least_derivations.nd (pi_listK (K := K) (pv 8)) (blkOk_by (own := [("part", 12)]) (N := n_least_derivations) (sc := (defScope s_least_derivations)) (by decide +kernel)) (fun _ _ _ _ _ => (pg_name (i := 12) sc_least_derivations.nd rfl (Or.inl rfl))) (fun _ _ _ _ _ => pts_nil) (fun _ _ _ _ _ => (pe_cmp (pc_din (hu_of hr) (pv 12) (pv 3)) (by rfl)))) pa_nil)))))))
    (pss_one ps_continue)
    pss_nil)
  (pss_cons (ps_set (i := 10) sc_least_derivations.nd rfl (Or.inl rfl) (pe_op op_add pe_int (pe_callB (cr_sumK (K := K) (by rfl)) (by rfl) T.z_sum (by decide +kernel) (pa_cons (pe_lc (own := [("part", 12)]) (g := gName 12) (tt := tYes) (by rfl) sc_least_derivations.nd (pi_listK (K := K) (pv 8)) (blkOk_by (own := [("part", 12)]) (N := n_least_derivations) (sc := (defScope s_least_derivations)) (by decide +kernel)) (fun _ _ _ _ _ => (pg_name (i := 12) sc_least_derivations.nd rfl (Or.inl rfl))) (fun _ _ _ _ _ => pts_nil) (fun _ _ _ _ _ => (pe_ix (ix_tupK (K := K)) (pe_dget (hu_of hr) (pv 3) (pv 12) (fun _ _ => rfl)) pe_int (fun _ _ => rfl)))) pa_nil))))
  (pss_cons (ps_set (i := 11) sc_least_derivations.nd rfl (Or.inl rfl) (pe_joinK (K := K) pe_str (pe_lc (own := [("char", 13)]) (g := gName 13) (tt := tYes) (by rfl) sc_least_derivations.nd (pi_str (pv 7)) (blkOk_by (own := [("char", 13)]) (N := n_least_derivations) (sc := (defScope s_least_derivations)) (by decide +kernel)) (fun _ _ _ _ _ => (pg_name (i := 13) sc_least_derivations.nd rfl (Or.inl rfl))) (fun _ _ _ _ _ => pts_nil) (fun _ _ _ _ _ => (pe_ifExp (pt_val (pe_call G_is_name (hr.mono (by decide)) (by rfl) T.m_is_name T.f_is_name.kp T.b_is_name .nil pass0 (pa_cons (pv 13) pa_nil))) (pe_ix (ix_tupK (K := K)) (pe_dget (hu_of hr) (pv 3) (pv 13) (fun _ _ => rfl)) pe_int (fun _ _ => rfl)) (pv 13))))))
  (pss_one (ps_if (PW.pt (pw_or (pt_cmp (pc_dnotin (hu_of hr) (pv 6) (pv 3)) (by rfl)) (pw_or1 (pt_cmpR (op_ltSWK (K := K) hr.units) (pe_tup (pa_cons (pv 10) (pa_cons (pv 11) pa_nil))) (pe_slice (sl_tupK (K := K)) (pe_dget (hu_of hr) (pv 3) (pv 6) (fun _ _ => rfl)) po_none (po_some pe_int)) (nomark _)))))
    (pss_cons (ps_dput (hu_of hr) (pv 3) (pv 6) (pe_tup (pa_cons (pv 10) (pa_cons (pv 11) (pa_cons (pv 5) pa_nil)))) rfl)
  (pss_one (ps_set (i := 4) sc_least_derivations.nd rfl (Or.inl rfl) pe_bl)))
    pss_nil))))))))))))
  (pss_one (ps_ret (pv 3)))))), ?_⟩
    have hnv : nvs = numbers.map vn := by rw [hnl.nats, List.map_map]; rfl
    intro d hd
    let St : List (Option V) → Prop := fun σ => True
    refine ⟨fun n σ H' => ∃ (b : Bool) (m : Best) (x5 x6 x7 x8 x9 x10 x11 : Option V), σ = [some (.ref ra), some (.ref na), some (.ref dl), some (.ref d), some (.bl b), x5, x6, x7, x8, x9, x10, x11, none, none] ∧ LDd F H d m H' ∧ LDok lens m ∧
      ((b = true ∧ muD m < n ∧ rounds (ldRound rules lens numbers) n m = leastDerivations rules numbers lens) ∨ (b = false ∧ m = leastDerivations rules numbers lens)), ⟨ldFuel, true, [], none, none, none, none, none, none, none, rfl, ⟨F, [], (Ext.refl sF).newM hd, sF.free hd, upd_same, .nil⟩, LDok.nil _, .inl ⟨rfl, Nat.lt_succ_self _, rfl⟩⟩, ?_⟩
    rintro n σ H1 ⟨b, m, x5, x6, x7, x8, x9, x10, x11, rfl, hD, hm, hb⟩
    refine ⟨_, rfl, b, rfl, ?_⟩
    rcases hb with ⟨rfl, hmu, hres⟩ | ⟨rfl, hres⟩
    · refine iteT ⟨fun σ' H' => ∃ n', n' < n ∧ ∃ (b : Bool) (m : Best) (x5 x6 x7 x8 x9 x10 x11 : Option V), σ' = [some (.ref ra), some (.ref na), some (.ref dl), some (.ref d), some (.bl b), x5, x6, x7, x8, x9, x10, x11, none, none] ∧ LDd F H d m H' ∧ LDok lens m ∧
        ((b = true ∧ muD m < n' ∧ rounds (ldRound rules lens numbers) n' m = leastDerivations rules numbers lens) ∨ (b = false ∧ m = leastDerivations rules numbers lens)), fun _ _ h => h, ?_⟩
      obtain ⟨F1, kvs1, e1, fd1, hd1, ad1⟩ := hD
      refine ⟨_, rfl, na, rfl, ⟨_, SqL.of (e1.sm _ _ hna)⟩, for_list (K := K) (a := na) (xs := nvs) (fun i σ H' => ∃ (x5 x6 x7 x8 x9 x10 x11 : Option V),
        σ = [some (.ref ra), some (.ref na), some (.ref dl), some (.ref d), some (.bl ((numbers.take i).foldl (ldStep rules lens) (m, false)).2), x5, x6, x7, x8, x9, x10, x11, none, none] ∧ LDd F H d ((numbers.take i).foldl (ldStep rules lens) (m, false)).1 H')
        ⟨x5, x6, x7, x8, x9, x10, x11, rfl, F1, kvs1, e1, fd1, hd1, ad1⟩ (fun i σ H' _ h => ?_) ?_ ?_⟩
      · obtain ⟨_, _, _, _, _, _, _, _, F', _, e, _⟩ := h
        exact SqL.of (e.sm _ _ hna)
      · rintro i y σ H2 hy ⟨x5, x6, x7, x8, x9, x10, x11, rfl, F2, kvs, e2, fd2, hd2, ad2⟩
        obtain ⟨num, hnum, rfl⟩ := map_get (hnv ▸ hy)
        obtain ⟨r, hr', hro⟩ := hok num (List.mem_of_getElem? hnum)
        obtain ⟨tv, htv, hrv⟩ := hal.get' hr'
        obtain ⟨t, u1, u2, rfl, ht, h3, h4⟩ := hrv
        rw [show u1 = _ from h3, show u2 = _ from h4] at ht
        have lok : LDok lens ((numbers.take i).foldl (ldStep rules lens) (m, false)).1 := (ldFold (m, false) (fun x hx => hok x (List.mem_of_mem_take hx)) hm).1
        have hst := foldl_more (f := ldStep rules lens) (b := (m, false)) hnum
        generalize (numbers.take i).foldl (ldStep rules lens) (m, false) = st at hst ad2 lok ⊢
        obtain ⟨m2, b2⟩ := st
        -- name, body = rules[number]
        refine ⟨_, rfl, _, rfl, ra, _, _, _, rfl, rfl, SqL.of (e2.sm _ _ hra), at_of (j := num) (v := .ref t) rfl htv, ?_⟩
        refine ⟨t, _, rfl, SqT.of (e2.sm _ _ ht), rfl, _, _, rfl, _, _, rfl, rfl, ?_⟩
        -- parts = names_in(body)
        refine ⟨_, rfl, F2, _, r.2, rfl, e2.fh, rfl, by have := hro.few; omega, fun v F3 H3 e3 hv => ?_⟩
        obtain ⟨la, lvs, rfl, hla, hlal⟩ := hv
        have hlv : lvs = (namesIn r.2).map vc := by rw [hlal.strs]; show List.map _ (ch1 _) = _; rw [List.map_map]; rfl
        subst hlv
        have hnl : (namesIn r.2).length ≤ 4 := Nat.le_trans (namesIn_le _) hro.few
        have hdl2 : ∀ {F' H'}, Ext F2 H2 F' H' → H' dl = some (.dK lkvs) := fun e => (e2.trans e).sm _ _ hdl
        have hget : ∀ c, (aGet lens c).isSome = true → valV lkvs (encN c) = some (vn ((aGet lens c).getD 0)) := fun c hc => by
          rcases AD.get encN_inj c adl with ⟨h1, h2⟩ | ⟨x, v, h1, h2, h3⟩
          · rw [show aGet lens c = none from h1] at hc; cases hc
          · rw [h2, show aGet lens c = some x from h1, show v = .int (x : Int) from h3]; rfl
        have hals : ∀ c ∈ namesIn r.2, (aGet lens c).isSome = true := fun c hc => List.all_eq_true.mp hro.al c hc
        have hlnz : (namesIn r.2).length < sizeLine := by rw [sl64]; omega
        refine ⟨_, rfl, _, rfl, by rw [S_len, sl64]; have := hro.few; omega, _, rfl, la, _, rfl, .inl (SqL.of (e3.fh _ _ hla)), _, _, rfl, rfl, _, rfl, la, rfl, ⟨_, SqL.of (e3.fh _ _ hla)⟩, fun D1 hD1 => ?_⟩
        refine lc_cs (r := rNat) (namesIn r.2) (fun c => (aGet lens c).getD 0) hD1 e3.fh hla hlnz (fun c F4 H4 hc e4 Qy q => ?_) (fun ws F4 H4 e4 fD4 al4 => ?_)
        · refine ⟨rfl, _, rfl, _, rfl, dl, _, rfl, SF.DGet.some (k := encN c) (hdl2 (e3.trans e4)) (hget c (hals c hc)), ?_⟩
          exact q _ F4 H4 (Ext.refl e4.fh) rfl
        have e24 := e3.trans e4
        refine ⟨D1, _, rfl, SqL.of (by rw [e4.fh _ _ fD4, al4.nats]), _, _, rfl, rfl, ?_⟩
        dsimp only
        have etot : (((S r.2).length : Nat) : Int) - ((((namesIn r.2).map vc).length : Nat) : Int) + (((((namesIn r.2).map fun c => (aGet lens c).getD 0).map fun (x : Nat) => (x : Int))).sum) = ((total lens r.2 : Nat) : Int) := by
          rw [sum_ints, List.length_map, S_len]
          unfold total
          have := namesIn_le r.2
          omega
        rw [etot]
        have E4 := e2.trans e24
        have hd4 : H4 d = some (.dK kvs) := e24.hh _ _ hd2
        have fd4 : F4 d = none := e24.nf d (by rw [hd2]; simp) fd2
        -- total != lengths[name] or not all(part in best)
        refine ⟨_, rfl, _, rfl, _, rfl, dl, _, rfl, SF.DGet.some (k := encN r.1) (hdl2 e24) (hget r.1 hro.here), rfl, _, rfl, ?_⟩
        rw [dec_ii]
        have stay : ∀ (y7 y8 y9 y10 y11 : Option V) (F5 H5 : Hp), Ext F4 H4 F5 H5 → ldStep rules lens (m2, b2) num = (m2, b2) → ∃ (x5 x6 x7 x8 x9 x10 x11 : Option V),
            [some (V.ref ra), some (.ref na), some (.ref dl), some (.ref d), some (.bl b2), some (vn num), some (vc r.1), y7, y8, y9, y10, y11, none, none] = [some (V.ref ra), some (.ref na), some (.ref dl), some (.ref d), some (.bl ((numbers.take (i + 1)).foldl (ldStep rules lens) (m, false)).2), x5, x6, x7, x8, x9, x10, x11, none, none] ∧
            LDd F H d ((numbers.take (i + 1)).foldl (ldStep rules lens) (m, false)).1 H5 := fun y7 y8 y9 y10 y11 F5 H5 e5 hs => by
          rw [hst, hs]
          exact ⟨_, _, _, _, _, _, _, rfl, F5, kvs, E4.trans e5, e5.nf d (by rw [hd4]; simp) fd4, e5.hh _ _ hd4, ad2.mono (e24.trans e5).ff⟩
        by_cases ht1 : total lens r.2 = (aGet lens r.1).getD 0
        case neg =>
          rw [decide_eq_false (by omega)]
          refine iteT (iteT ?_)
          refine stay _ _ _ _ _ F4 H4 (Ext.refl e4.fh) (ldStep_no hr' ?_)
          unfold ldDue
          rw [decide_eq_false ht1]
          rfl
        rw [decide_eq_true (by omega)]
        refine iteF ?_
        refine ⟨_, rfl, la, rfl, ⟨_, SqL.of (e4.sm _ _ hla)⟩, fun D2 hD2 => ?_⟩
        have hla4 := e4.ff _ _ hla
        have hval : ∀ c, (aGet m2 c = none ∧ valV kvs (encN c) = none) ∨ ∃ x v, aGet m2 c = some x ∧ valV kvs (encN c) = some v ∧ rBest F2 v x := fun c => AD.get encN_inj c ad2
        refine lc_cs (r := rB) (namesIn r.2) (fun c => (aGet m2 c).isSome) hD2 e4.fh hla4 hlnz (fun c F5 H5 hc e5 Qy q => ?_) (fun ws F5 H5 e5 fD5 al5 => ?_)
        · refine ⟨rfl, _, rfl, _, rfl, d, _, rfl, DGet.k (k := encN c) (e5.hh _ _ hd4), ?_⟩
          have e1 : (valV kvs (encN c)).isSome = (aGet m2 c).isSome := by
            rcases hval c with ⟨h1, h2⟩ | ⟨x, v, h1, h2, h3⟩
            · rw [h1, h2]; rfl
            · rw [h1, h2]; rfl
          rw [e1]
          exact q _ F5 H5 (Ext.refl e5.fh) rfl
        refine ⟨D2, _, rfl, SqL.of (by rw [e5.fh _ _ fD5, al5.bls]), _, rfl, ?_⟩
        have q1 : (((namesIn r.2).map fun c => (aGet m2 c).isSome).all id) = allIn m2 r.2 := by rw [List.all_map]; rfl
        rw [q1]
        have e25 := e24.trans e5
        cases hall : allIn m2 r.2 with
        | false =>
          refine iteT ?_
          refine stay _ _ _ _ _ F5 H5 e5 (ldStep_no hr' ?_)
          unfold ldDue
          rw [show allIn (m2, b2).1 r.2 = false from hall, Bool.and_false]
        | true =>
          refine iteF ?_
          have hdue : ldDue lens m2 r = true := by unfold ldDue; rw [hall, decide_eq_true ht1]; rfl
          have hsome : ∀ c ∈ namesIn r.2, ∃ p z x, aGet m2 c = some x ∧ valV kvs (encN c) = some (.ref p) ∧ F2 p = some (.tup [vn x.a, .str (S x.b), z]) := fun c hc => by
            have hc' := List.all_eq_true.mp hall c hc
            rcases hval c with ⟨h1, h2⟩ | ⟨x, v, h1, h2, p, u, w, z, rfl, h4, h5, h6, _⟩
            · rw [show aGet m2 c = none from h1] at hc'; cases hc'
            · rw [show u = _ from h5, show w = _ from h6] at h4
              exact ⟨p, z, x, h1, h2, h4⟩
          have hd5 : H5 d = some (.dK kvs) := e5.hh _ _ hd4
          have hla5 := e5.ff _ _ hla4
          -- steps
          refine ⟨_, rfl, la, rfl, ⟨_, SqL.of (e5.fh _ _ hla5)⟩, fun D3 hD3 => ?_⟩
          refine lc_cs (r := rNat) (namesIn r.2) (bS m2) hD3 e5.fh hla5 hlnz (fun c F6 H6 hc e6 Qy q => ?_) (fun ws6 F6 H6 e6 fD6 al6 => ?_)
          · obtain ⟨p, z, x, hx, hv, hp⟩ := hsome c hc
            refine ⟨rfl, _, rfl, _, rfl, d, _, rfl, SF.DGet.some (k := encN c) (e6.hh _ _ hd5) hv, p, _, 0, _, rfl, rfl, SqT.of ((e25.trans e6).sm _ _ hp), rfl, ?_⟩
            refine q _ F6 H6 (Ext.refl e6.fh) ?_
            unfold bS
            rw [show aGet m2 c = some x from hx]
            rfl
          refine ⟨D3, _, rfl, SqL.of (by rw [e6.fh _ _ fD6, al6.nats]), _, _, rfl, rfl, ?_⟩
          dsimp only
          have est : (1 : Int) + ((((namesIn r.2).map (bS m2)).map fun (x : Nat) => (x : Int)).sum) = ((ldSteps m2 r.2 : Nat) : Int) := by
            rw [sum_ints]
            unfold ldSteps
            omega
          rw [est]
          have e26 := e25.trans e6
          have hd6 : H6 d = some (.dK kvs) := e6.hh _ _ hd5
          -- word
          refine ⟨⟨_, rfl⟩, _, rfl, _, rfl, fun D4 hD4 => ?_⟩
          refine lc_chars (r := rS) r.2 (ldPart m2) hD4 e6.fh (by have := hro.few; rw [sl64]; omega) (fun c F7 H7 hc e7 Qy q => ?_) (fun ws F7 H7 e7 fD7 al7 => ?_)
          · refine ⟨rfl, _, rfl, [c], rfl, by rw [sl64]; simp, _, rfl, ?_⟩
            cases hn : isName [c] with
            | true =>
              have hn' : nam c = true := hn
              obtain ⟨p, z, x, hx, hv, hp⟩ := hsome c (List.mem_filter.mpr ⟨hc, hn'⟩)
              refine iteT ⟨_, rfl, _, rfl, d, _, rfl, SF.DGet.some (k := encN c) (e7.hh _ _ hd6) hv, p, _, 1, _, rfl, rfl, SqT.of ((e26.trans e7).sm _ _ hp), rfl, ?_⟩
              refine q _ F7 H7 (Ext.refl e7.fh) ?_
              unfold ldPart bW
              rw [hn', if_pos rfl, show aGet m2 c = some x from hx]
              rfl
            | false =>
              have hn' : nam c = false := hn
              refine iteF ⟨_, rfl, q _ F7 H7 (Ext.refl e7.fh) ?_⟩
              unfold ldPart
              rw [hn', if_neg Bool.false_ne_true]
              rfl
          have hws : ws = ((r.2.map (ldPart m2)).map S).map V.str := by rw [al7.strs]; simp [List.map_map, Function.comp_def]
          have hlenw := ldWord_len lok hall
          have hsum : ((r.2.map (ldPart m2)).map List.length).sum = (ldWord m2 r.2).length := by unfold ldWord; rw [List.length_flatten]
          have h24 : (ldWord m2 r.2).length ≤ 24 := by rw [hlenw, ht1]; exact hro.small
          refine ⟨_, D4, (r.2.map (ldPart m2)).map S, rfl, rfl, .inl (SqL.of (by rw [e7.fh _ _ fD7, hws])), ?_, ?_⟩
          · rw [map_len, hsum, S_empty, S_len]
            have := hro.few
            rw [List.length_map, List.length_map]
            simp only [List.length_nil, Nat.mul_zero]
            omega
          rw [S_empty, join_S, joinL_nil]
          have e27 := e26.trans e7
          have hd7 : H7 d = some (.dK kvs) := e7.hh _ _ hd6
          have fd7 : F7 d = none := e27.nf d (by rw [hd2]; simp) fd2
          have hkz : kvs.length < sizeLine := by
            have := lok.few
            have := ad2.len
            rw [sl64]
            omega
          have put : ldBetter m2 r = true → ∀ (p : Addr) (F8 H8 : Hp), Ext F7 H7 F8 H8 → F8 p = some (.tup [vn (ldSteps m2 r.2), .str (S (ldWord m2 r.2)), vn num]) → ∃ (x5 x6 x7 x8 x9 x10 x11 : Option V),
              [some (V.ref ra), some (.ref na), some (.ref dl), some (.ref d), some (.bl true), some (vn num), some (vc r.1), some (.str (S r.2)), some (.ref la), some (.int ((total lens r.2 : Nat) : Int)), some (.int ((ldSteps m2 r.2 : Nat) : Int)), some (.str (S (ldWord m2 r.2))), none, none] = [some (V.ref ra), some (.ref na), some (.ref dl), some (.ref d), some (.bl ((numbers.take (i + 1)).foldl (ldStep rules lens) (m, false)).2), x5, x6, x7, x8, x9, x10, x11, none, none] ∧
              LDd F H d ((numbers.take (i + 1)).foldl (ldStep rules lens) (m, false)).1 (upd H8 d (.dK (putK kvs (encN r.1) (.ref p)))) := fun hb p F8 H8 e8 hp => by
            rw [hst, ldStep_yes hr' hdue hb]
            refine ⟨_, _, _, _, _, _, _, rfl, F8, _, ((e2.trans e27).trans e8).set hd (e8.nf d (by rw [hd7]; simp) fd7), e8.nf d (by rw [hd7]; simp) fd7, upd_same, ?_⟩
            exact (ad2.mono (e27.trans e8).ff).put encN_inj (r := rBest) (x := ⟨ldSteps m2 r.2, ldWord m2 r.2, num⟩) ⟨p, _, _, _, rfl, hp, rfl, rfl, rfl⟩
          refine ⟨_, rfl, _, rfl, d, _, rfl, DGet.k (k := encN r.1) hd7, _, rfl, ?_⟩
          rcases hval r.1 with ⟨h1, h2⟩ | ⟨x, v, h1, h2, q0, u, w0, z, rfl, h4, h5, h6, _⟩
          · rw [h2]
            refine iteT (iteT ⟨_, rfl, _, rfl, _, rfl, by rw [sl64]; simp, fun p hp => ⟨_, rfl, _, rfl, d, _, rfl, DPut.k (k := encN r.1) (by rw [upd_ne (ne_of_none hd7 hp)]; exact hd7) hkz, ?_⟩⟩)
            refine put (by unfold ldBetter; rw [show aGet m2 r.1 = none from h1]) p _ _ ((Ext.refl e7.fh).newF hp) upd_same
          · rw [h2]
            rw [show u = _ from h5, show w0 = _ from h6] at h4
            refine iteF ⟨_, rfl, _, rfl, by rw [sl64]; simp, fun p hp => ⟨_, rfl, _, rfl, d, _, rfl, SF.DGet.some (k := encN r.1) (by rw [upd_ne (ne_of_none hd7 hp)]; exact hd7) h2, ?_⟩⟩
            have e8 := (Ext.refl e7.fh).newF hp (o := .tup [.int ((ldSteps m2 r.2 : Nat) : Int), .str (S (ldWord m2 r.2))])
            have h48 := (e27.trans e8).sm _ _ h4
            refine ⟨_, rfl, q0, _, rfl, SqT.of h48, (by show ¬ (HT.sIx 3 0 none = 0 ∧ HT.sIx 3 3 (some 2) = 3); decide), fun p2 hp2 => ?_⟩
            have e9 := e8.newF hp2 (o := .tup [vn x.a, .str (S x.b)])
            refine ⟨p, p2, ((ldSteps m2 r.2 : Nat) : Int), ((x.a : Nat) : Int), ldWord m2 r.2, x.b, rfl, rfl, SqT.of ?_, SqT.of ?_, _, rfl, ?_⟩
            · rw [upd_ne (by rintro rfl; rw [upd_same] at hp2; cases hp2), upd_same]; rfl
            · exact upd_same
            have hd9 : (upd (upd H7 p (.tup [.int ((ldSteps m2 r.2 : Nat) : Int), .str (S (ldWord m2 r.2))])) p2 (.tup [vn x.a, .str (S x.b)])) d = some (.dK kvs) := e9.hh _ _ hd7
            have hbt : ldBetter m2 r = swLt ((ldSteps m2 r.2 : Nat) : Int) (ldWord m2 r.2) ((x.a : Nat) : Int) x.b := by
              unfold ldBetter
              rw [show aGet m2 r.1 = some x from h1]
              unfold swLt
              show swL _ _ _ _ = _
              unfold swL
              by_cases he : ldSteps m2 r.2 = x.a
              · rw [if_pos he, if_pos (by omega)]
              · rw [if_neg he, if_neg (by omega)]
                by_cases hl : ldSteps m2 r.2 < x.a
                · rw [decide_eq_true hl, decide_eq_true (by omega)]
                · rw [decide_eq_false hl, decide_eq_false (by omega)]
            rw [← hbt]
            cases hb : ldBetter m2 r with
            | true =>
              refine iteT ⟨_, rfl, _, rfl, _, rfl, by rw [sl64]; simp, fun p3 hp3 => ⟨_, rfl, _, rfl, d, _, rfl, DPut.k (k := encN r.1) (by rw [upd_ne (ne_of_none hd9 hp3)]; exact hd9) hkz, ?_⟩⟩
              exact put hb p3 _ _ (e9.newF hp3) upd_same
            | false =>
              refine iteF ?_
              exact stay _ _ _ _ _ _ _ ((e5.trans (e6.trans e7)).trans e9) (ldStep_no2 hr' hb)
      · rintro σ H6 ⟨x5, x6, x7, x8, x9, x10, x11, rfl, F6, kvs6, e6, fd6, hd6, ad6⟩
        rw [show nvs.length = numbers.length by rw [hnv, List.length_map], List.take_length] at ad6
        rw [show nvs.length = numbers.length by rw [hnv, List.length_map], List.take_length]
        obtain ⟨l1, l2, l3, l4⟩ := ldFold (numbers := numbers) (m, false) hok hm
        obtain ⟨n, rfl⟩ : ∃ n', n = n' + 1 := ⟨n - 1, by omega⟩
        have hround : ldRound rules lens numbers m = numbers.foldl (ldStep rules lens) (m, false) := rfl
        refine ⟨n, Nat.lt_succ_self _, _, _, _, _, _, _, _, _, _, rfl, ⟨F6, kvs6, e6, fd6, hd6, ad6⟩, l1, ?_⟩
        unfold rounds at hres
        rw [hround] at hres
        cases hb : (numbers.foldl (ldStep rules lens) (m, false)).2 with
        | true =>
          rw [hb, if_pos rfl] at hres
          have := l3 rfl hb
          have e0 : muD (m, false).1 = muD m := rfl
          rw [e0] at this
          exact .inl ⟨rfl, by omega, hres⟩
        | false =>
          rw [hb, if_neg Bool.false_ne_true] at hres
          exact .inr ⟨rfl, hres⟩
    · refine iteF ⟨_, rfl, ?_⟩
      obtain ⟨F1, kvs1, e1, fd1, hd1, ad1⟩ := hD
      rw [← hres] at k
      exact k _ _ H1 (e1.frz hd hd1 fd1) ⟨d, kvs1, rfl, upd_same, ad1.mono (fun b u q => by rw [upd_ne (ne_of_none q fd1)]; exact q)⟩
end
end SF
namespace SF
open PySem PySem.Spec PyProof.Rows L2
def sp_Table (C : Addr) : Sp := fun vs H Q _ => ∃ (F H2 : Hp) (p dx pa na va : Addr) (pairs : List Pair) (nums : List Nat) (van : List (Nat × Bool)), vs = [.ref p, .ref pa, .ref na, .ref va] ∧ H2 p = none ∧ H = upd H2 p (.ins C dx []) ∧ Same F H2 ∧
  rL (rP rS rS) F (.ref pa) pairs ∧ rL rNat F (.ref na) nums ∧ rD encN rB F (.ref va) van ∧ (∀ n ∈ nums, n < pairs.length) ∧ nums.length ≤ 1000 ∧ ∀ F' H', Ext F H2 F' H' → rTab C F' (.ref p) (mkTab pairs nums van) → Q .non H'
theorem bnStep_len {pairs : List Pair} {m : List (List Nat × List Nat)} {n B : Nat} (h1 : m.length ≤ B) (h2 : ∀ q ∈ m, q.2.length ≤ B) : (bnStep pairs m n).length ≤ B + 1 ∧ ∀ q ∈ bnStep pairs m n, q.2.length ≤ B + 1 := by
  refine ⟨?_, fun q hq => ?_⟩
  · unfold bnStep
    rw [aPut_length]
    split <;> omega
  · unfold bnStep aPut at hq
    have h3 : ((aGet m (headAt pairs n)).getD [] ++ [n]).length ≤ B + 1 := by
      cases e : aGet m (headAt pairs n) with
      | none => simp
      | some x =>
        have := h2 _ (aGet_mem e)
        simp at this ⊢
        omega
    split at hq
    · obtain ⟨p, hp, rfl⟩ := List.mem_map.mp hq
      split
      · exact h3
      · exact Nat.le_succ_of_le (h2 p hp)
    · rcases List.mem_append.mp hq with z | z
      · exact Nat.le_succ_of_le (h2 q z)
      · simp at z
        subst z
        exact h3
section
variable {P : Program} {w : World} {K : PySem.W.Frag} {mg : Str → Option Value} {base : Heap} {a : Ad}
structure BN (H2 : Hp) (b : Addr) (m : List (List Nat × List Nat)) (B : Nat) (H' : Hp) : Prop where
  ex : ∃ kvs, H' b = some (.dK kvs) ∧ AD encS (rML H2) H' kvs m ∧ (kvs.map (·.2)).Nodup
  kn : (m.map (·.1)).Nodup
  l1 : m.length ≤ B
  l2 : ∀ q ∈ m, q.2.length ≤ B
theorem ok_Table (T : Txt K mg a) : FnOk P w K mg base CX0 1 a.Table___init__ a.d_Table___init__ ["self", "pairs", "numbers", "vanishing"] (sp_Table a.Table) := by
  refine T.f_Table___init__.ok sc_Table___init__ (fun vs H Q E h => ?_) (fun cdv A outer s H vs Q E hr h => ?_)
  · obtain ⟨F, H2, p, dx, pa, na, va, x, y, z, rfl, _⟩ := h; rfl
  · obtain ⟨F, H2, p, dx, pa, na, va, pairs, nums, van, rfl, hp, rfl, sF, ⟨_, pvs, e1, hpa, pal⟩, ⟨_, nvs, e2, hna, nal⟩, ⟨_, vkv, e3, hva, vad⟩, hin, h1000, k⟩ := h
    cases e1; cases e2; cases e3
    refine ⟨_, (pss_cons (ps_fldK (K := K) (pv 0) (pv 1))
  (pss_cons (ps_fldK (K := K) (pv 0) (pv 2))
  (pss_cons (ps_fldK (K := K) (pv 0) (pv 3))
  (pss_cons (ps_fldK (K := K) (pv 0) pe_dnewK)
  (pss_one (ps_for PassesOwn.never rfl (pi_listK (K := K) (pv 2)) (pg_name (i := 4) sc_Table___init__.nd rfl (Or.inl rfl))
    (pss_cons (ps_set (i := 5) sc_Table___init__.nd rfl (Or.inl rfl) (pe_ix (ix_tupK (K := K)) (pe_ix (ix_listK (K := K)) (pv 1) (pv 4) (fun _ _ => rfl)) pe_int (fun _ _ => rfl)))
  (pss_cons (ps_if (pt_cmp (pc_dnotin (hu_of hr) (pv 5) (pe_fldK (K := K) (pv 0))) (by rfl))
    (pss_one (ps_dput (hu_of hr) (pe_fldK (K := K) (pv 0)) (pv 5) (pe_lst pa_nil) rfl))
    pss_nil)
  (pss_one (ps_expr (pe_bmK (K := K) PySem.F.plainAttrs_list PySem.F.slot_list_append PySem.F.type_list_append mt_append (pe_dget (hu_of hr) (pe_fldK (K := K) (pv 0)) (pv 5) (fun _ _ => rfl)) (pa_cons (pv 4) pa_nil)))))))))))), ?_⟩
    have nn1 : ¬ (("pairs" : Str) = "numbers") := by decide
    have nn2 : ¬ (("pairs" : Str) = "vanishing") := by decide
    have nn3 : ¬ (("pairs" : Str) = "by_name") := by decide
    have nn4 : ¬ (("numbers" : Str) = "vanishing") := by decide
    have nn5 : ¬ (("numbers" : Str) = "by_name") := by decide
    have nn6 : ¬ (("vanishing" : Str) = "by_name") := by decide
    have hnv : nvs = nums.map vn := by rw [nal.nats, List.map_map]; rfl
    refine ⟨_, rfl, _, rfl, p, _, dx, [], rfl, upd_same, T.k_Table, T.na_Table_pairs, (by show 0 < 1000; decide), ?_⟩
    refine ⟨_, rfl, _, rfl, p, _, dx, _, rfl, upd_same, T.k_Table, T.na_Table_numbers, (by show 1 < 1000; decide), ?_⟩
    rw [putF_nil, putF_ne nn1, putF_nil]
    refine ⟨_, rfl, _, rfl, p, _, dx, _, rfl, upd_same, T.k_Table, T.na_Table_vanishing, (by show 2 < 1000; decide), ?_⟩
    rw [putF_ne nn2, putF_ne nn4, putF_nil]
    refine fun b hb => ⟨_, rfl, p, _, dx, _, rfl, by rw [upd_ne (fun e => by subst e; rw [upd_same] at hb; cases hb), upd_same], T.k_Table, T.na_Table_by_name, (by show 3 < 1000; decide), ?_⟩
    rw [putF_ne nn3, putF_ne nn5, putF_ne nn6, putF_nil]
    have fp : F p = none := sF.free hp
    have hbp : b ≠ p := fun e => by subst e; rw [upd_same] at hb; cases hb
    have hb2 : H2 b = none := by rw [upd_ne hbp, upd_ne hbp, upd_ne hbp, upd_ne hbp] at hb; exact hb
    let fs : List (Str × V) := [("pairs", .ref pa), ("numbers", .ref na), ("vanishing", .ref va), ("by_name", .ref b)]
    have E0 := ((((((Ext.refl sF).newM hp (o := .ins a.Table dx [])).set hp fp (o := .ins a.Table dx [("pairs", .ref pa)])).set hp fp (o := .ins a.Table dx [("pairs", .ref pa), ("numbers", .ref na)])).set hp fp
      (o := .ins a.Table dx [("pairs", .ref pa), ("numbers", .ref na), ("vanishing", .ref va)])).newM hb (o := .dK [])).set hp fp (o := .ins a.Table dx fs)
    have s0 := E0.hh
    refine ⟨_, rfl, na, rfl, ⟨_, SqL.of (s0 _ _ (sF _ _ hna))⟩, for_list (K := K) (a := na) (xs := nvs) (fun i σ H' => ∃ (x4 x5 : Option V),
      σ = [some (.ref p), some (.ref pa), some (.ref na), some (.ref va), x4, x5] ∧ Same H2 H' ∧ H' p = some (.ins a.Table dx fs) ∧ BN H2 b ((nums.take i).foldl (bnStep pairs) []) i H') ?_ (fun i σ H' _ h => ?_) ?_ ?_⟩
    · refine ⟨none, none, rfl, s0, upd_same, ⟨⟨[], by rw [upd_ne hbp, upd_same], .nil, List.nodup_nil⟩, List.nodup_nil, Nat.le_refl _, fun q hq => by cases hq⟩⟩
    · obtain ⟨_, _, _, s1, _⟩ := h
      exact SqL.of (s1 _ _ (sF _ _ hna))
    · rintro i y σ H3 hy ⟨x4, x5, rfl, s3, hp3, bn⟩
      obtain ⟨n, hn, rfl⟩ := map_get (hnv ▸ hy)
      have hst := foldl_more (f := bnStep pairs) (b := []) hn
      rw [hst]
      generalize (nums.take i).foldl (bnStep pairs) [] = m at bn ⊢
      obtain ⟨⟨kvs, hb3, ad, vnd⟩, kn, l1, l2⟩ := bn
      have hi : i < 1000 := by have := (List.getElem?_eq_some_iff.mp hn).1; omega
      have hnp : n < pairs.length := hin n (List.mem_of_getElem? hn)
      obtain ⟨t, ht, u, w1, w2, rfl, hu, h5, h6⟩ := pal.get' (List.getElem?_eq_getElem hnp)
      rw [show w1 = _ from h5, show w2 = _ from h6] at hu
      have hhd : headAt pairs n = pairs[n].1 := by unfold headAt; rw [List.getElem?_eq_getElem hnp]; rfl
      obtain ⟨bnl1, bnl2⟩ := bnStep_len (pairs := pairs) (n := n) l1 l2
      unfold bnStep at bnl1 bnl2 ⊢
      rw [hhd] at bnl1 bnl2 ⊢
      generalize pairs[n].1 = hd at hu bnl1 bnl2 ⊢
      -- name = pairs[number][0]
      refine ⟨_, rfl, _, rfl, pa, _, _, _, rfl, rfl, SqL.of (s3 _ _ (sF _ _ hpa)), at_of (j := n) (v := .ref u) rfl ht, u, _, 0, _, rfl, rfl, SqT.of (s3 _ _ (sF _ _ hu)), rfl, ?_⟩
      have hlook : List.lookup (Str.ofString "by_name") fs = some (.ref b) := by
        show List.lookup ("by_name" : Str) [("pairs", V.ref pa), ("numbers", .ref na), ("vanishing", .ref va), ("by_name", .ref b)] = _
        rw [look_ne (by decide), look_ne (by decide), look_ne (by decide), look_eq]
      -- the rest: append to the list that stands there
      have app : ∀ (m1 : List (List Nat × List Nat)) (kvs1 : List (Key × V)) (H4 : Hp) (l : Addr) (x : List Nat), Same H2 H4 → H4 p = some (.ins a.Table dx fs) → H4 b = some (.dK kvs1) → AD encS (rML H2) H4 kvs1 m1 → (kvs1.map (·.2)).Nodup → (m1.map (·.1)).Nodup →
          valV kvs1 (encS hd) = some (.ref l) → aGet m1 hd = some x → x.length ≤ i → aPut m1 hd (x ++ [n]) = aPut m hd ((aGet m hd).getD [] ++ [n]) →
          tDrop (tBM K "list" rAppend (tDGet (tFld K (tVar 0) "by_name") (tVar 5)) (tCons (tVar 4) tNil)) { nx := fun σ H' => ∃ (x4 x5 : Option V), σ = [some (.ref p), some (.ref pa), some (.ref na), some (.ref va), x4, x5] ∧ Same H2 H' ∧ H' p = some (.ins a.Table dx fs) ∧ BN H2 b (aPut m hd ((aGet m hd).getD [] ++ [n])) (i + 1) H', rt := Q }
            [some (.ref p), some (.ref pa), some (.ref na), some (.ref va), some (vn n), some (.str (S hd))] H4 := by
        intro m1 kvs1 H4 l x s4 hp4 hb4 ad4 vnd4 kn4 hv hx hxi hput
        have hl : H4 l = some (.lst (x.map vn)) ∧ H2 l = none := by
          rcases AD.get encS_inj hd ad4 with ⟨h1, h2⟩ | ⟨x', v, h1, h2, l', rfl, h3, h4⟩
          · rw [h2] at hv; cases hv
          · rw [h2] at hv; cases hv
            rw [hx] at h1; cases h1
            exact ⟨h3, h4⟩
        refine ⟨_, rfl, p, _, dx, fs, _, rfl, hp4, T.k_Table, T.na_Table_by_name, hlook, _, rfl, b, _, rfl, SF.DGet.some (k := encS hd) hb4 hv, .inl ⟨rfl, _, SqL.of hl.1⟩, _, rfl, l, _, _, rfl, rfl, hl.1, by rw [List.length_map, sl64]; omega, ?_⟩
        have hlp : l ≠ p := fun e => by subst e; rw [hl.1] at hp4; cases hp4
        have hlb : l ≠ b := fun e => by subst e; rw [hl.1] at hb4; cases hb4
        refine ⟨_, _, rfl, fun c o hc => by rw [upd_ne (fun e => by subst e; rw [hl.2] at hc; cases hc)]; exact s4 c o hc, by rw [upd_ne hlp.symm]; exact hp4, ⟨⟨kvs1, by rw [upd_ne hlb.symm]; exact hb4, ?_, vnd4⟩, ?_, bnl1, bnl2⟩⟩
        · have := AD.chg (y := x ++ [n]) hl.2 ad4 vnd4 kn4 hv
          rw [hput, List.map_append] at this
          exact this
        · exact aPut_nodup kn
      -- if name not in self.by_name
      refine ⟨_, rfl, _, rfl, p, _, dx, fs, _, rfl, hp3, T.k_Table, T.na_Table_by_name, hlook, b, _, rfl, DGet.k (k := encS hd) hb3, _, rfl, ?_⟩
      rcases AD.get encS_inj hd ad with ⟨h1, h2⟩ | ⟨x, v, h1, h2, h3⟩
      · rw [h2]
        refine iteT ⟨by rw [sl64]; simp, fun l hl => ⟨_, rfl, p, _, dx, fs, _, rfl, by rw [upd_ne (ne_of_none hp3 hl)]; exact hp3, T.k_Table, T.na_Table_by_name, hlook, _, rfl, b, _, rfl, DPut.k (k := encS hd) (kvs := kvs) (by rw [upd_ne (ne_of_none hb3 hl)]; exact hb3) (by have := ad.len; rw [sl64]; omega), ?_⟩⟩
        have hl2 : H2 l = none := s3.free hl
        have hpb : p ≠ b := hbp.symm
        have hlb : l ≠ b := fun e => by subst e; rw [hl] at hb3; cases hb3
        have ad2 : AD encS (rML H2) (upd H3 l (.lst [])) kvs m := ad.mono (fun c o hc => by rw [upd_ne (ne_of_none hc hl)]; exact hc)
        have ad3 := AD.put encS_inj (k := hd) (v := .ref l) (x := []) (r := rML H2) ⟨l, rfl, upd_same, hl2⟩ ad2
        have hany : (kvs.any fun kv => decide (kv.1 = encS hd)) = false := by rw [valV_any, h2]; rfl
        have hpk : putK kvs (encS hd) (.ref l) = kvs ++ [(encS hd, .ref l)] := by unfold putK; rw [hany, if_neg Bool.false_ne_true]
        have vnd3 : ((putK kvs (encS hd) (.ref l)).map (·.2)).Nodup := by
          rw [hpk, List.map_append, List.nodup_append]
          exact ⟨vnd, by simp, fun x hx y hy => by simp at hy; subst hy; exact fun e => AD.notin0 hl ad (e ▸ hx)⟩
        have hn3 : .ref b ∉ (putK kvs (encS hd) (.ref l)).map (·.2) := AD.notin (o := .dK kvs) (by rw [upd_ne hlb.symm]; exact hb3) (fun xs e => by cases e) ad3
        refine app (aPut m hd []) _ _ l [] (fun c o hc => ?_) ?_ upd_same (ad3.updM hn3) vnd3 (aPut_nodup kn) ?_ ?_ (Nat.zero_le _) ?_
        · rw [upd_ne (fun e => by subst e; rw [hb2] at hc; cases hc), upd_ne (fun e => by subst e; rw [hl2] at hc; cases hc)]; exact s3 c o hc
        · rw [upd_ne hpb, upd_ne (ne_of_none hp3 hl)]; exact hp3
        · rw [valV_put, if_pos rfl]
        · rw [aGet_put, if_pos rfl]
        · rw [aPut_put, h1]; rfl
      · rw [h2]
        obtain ⟨l, rfl, h4, h5⟩ := h3
        refine iteF ?_
        exact app m kvs H3 l x s3 hp3 hb3 ad vnd kn h2 h1 (l2 _ (aGet_mem h1)) (by rw [h1]; rfl)
    · rintro σ H6 ⟨x4, x5, rfl, s6, hp6, ⟨⟨kvs, hb6, ad, vnd⟩, kn, l1, l2⟩⟩
      rw [show nvs.length = nums.length by rw [hnv, List.length_map], List.take_length] at ad
      have eA := Ext.all sF s6
      refine k (allF F H2 H6) H6 eA ⟨p, dx, pa, na, va, b, rfl, (allF_new hp).trans hp6, Mono.mono eA.ff ⟨pa, pvs, rfl, hpa, pal⟩, Mono.mono eA.ff ⟨na, nvs, rfl, hna, nal⟩, Mono.mono eA.ff ⟨va, vkv, rfl, hva, vad⟩, b, kvs, rfl, (allF_new hb2).trans hb6, ad.fin⟩
end
end SF
namespace SF
open PySem PySem.Spec PyProof.Rows L2
abbrev gfs (u0 : V) (rt : Nat) (u2 u3 u4 u5 : V) : List (Str × V) := [("_rules", u0), ("root", vc rt), ("_useful", u2), ("_best", u3), ("forward", u4), ("backward", u5)]
def rGram (G C : Addr) : Rl Gram := fun F v g => ∃ p dx u0 u2 u3 u4 u5, v = .ref p ∧ F p = some (.ins G dx (gfs u0 g.root u2 u3 u4 u5)) ∧ rL rRule F u0 g.rules ∧ rL rNat F u2 g.useful ∧ rD encN rBest F u3 g.best ∧ rTab C F u4 g.fwd ∧ rTab C F u5 g.bwd
instance {G C : Addr} : Mono (rGram G C) := ⟨fun s h => by
  obtain ⟨p, dx, u0, u2, u3, u4, u5, e, h0, h1, h2, h3, h4, h5⟩ := h
  exact ⟨p, dx, u0, u2, u3, u4, u5, e, s _ _ h0, Mono.mono s h1, Mono.mono s h2, Mono.mono s h3, Mono.mono s h4, Mono.mono s h5⟩⟩
def sp_Grammar (G C : Addr) : Sp := fun vs H Q _ => ∃ (F H2 : Hp) (p dx la : Addr) (rt : V) (rvs : List V) (g : Gram), vs = [.ref p, .ref la, rt] ∧ H2 p = none ∧ H = upd H2 p (.ins G dx []) ∧ Same F H2 ∧
  H2 la = some (.lst rvs) ∧ Al rRule F rvs g.rules ∧ ((rt = .non ∧ g.rules[0]?.map (·.1) = some g.root) ∨ rt = vc g.root) ∧ g.Ok ∧ ∀ F' H', Ext F H2 F' H' → rGram G C F' (.ref p) g → Q .non H'
section
variable {P : Program} {w : World} {K : PySem.W.Frag} {mg : Str → Option Value} {base : Heap} {a : Ad}
theorem ok_Grammar (T : Txt K mg a) : FnOk P w K mg base CX0 4 a.Grammar___init__ a.d_Grammar___init__ ["self", "rules", "root"] (sp_Grammar a.Grammar a.Table) := by
  have G_is_name := ok_is_name (P := P) (w := w) (base := base) T
  have G_is_body := ok_is_body (P := P) (w := w) (base := base) T
  have G_least_lengths := ok_least_lengths (P := P) (w := w) (base := base) T
  have G_useful_numbers := ok_useful_numbers (P := P) (w := w) (base := base) T
  have G_least_derivations := ok_least_derivations (P := P) (w := w) (base := base) T
  have G_Table___init__ := ok_Table (P := P) (w := w) (base := base) T
  refine T.f_Grammar___init__.ok sc_Grammar___init__ (fun vs H Q E h => ?_) (fun cdv A outer s H vs Q E hr h => ?_)
  · obtain ⟨F, H2, p, dx, la, rt, rvs, g, rfl, _⟩ := h; rfl
  · obtain ⟨F, H2, p, dx, la, rt, rvs, g, rfl, hp, rfl, sF, hla, hal, hrt, hok, k⟩ := h
    refine ⟨_, PSs.nox (pss_cons (ps_if (pt_not (pt_chain op_le op_le pe_int (pe_callB (call_lenK (K := K)) (by rfl) T.z_len PySem.boot_len (pa_cons (pv 1) pa_nil)) (pe_conK (K := K) (pv 0))))
    (pss_one ps_never)
    pss_nil)
  (pss_cons (ps_for PassesOwn.never rfl (pi_enumK (K := K) (by rfl) T.z_enumerate (pa_cons (pv 1) pa_nil)) (pg_tupK (K := K) (n := 2) (by rfl) (pgs_cons (pg_name (i := 3) sc_Grammar___init__.nd rfl (Or.inl rfl)) (pgs_cons (pg_tupK (K := K) (n := 2) (by rfl) (pgs_cons (pg_name (i := 4) sc_Grammar___init__.nd rfl (Or.inl rfl)) (pgs_cons (pg_name (i := 5) sc_Grammar___init__.nd rfl (Or.inl rfl)) pgs_nil))) pgs_nil)))
    (pss_one (ps_if (PW.pt (pw_or (pt_not (pt_val (pe_call G_is_name (hr.mono (by decide)) (by rfl) T.m_is_name T.f_is_name.kp T.b_is_name .nil pass0 (pa_cons (pv 4) pa_nil)))) (pw_or1 (pt_not (pt_val (pe_call G_is_body (hr.mono (by decide)) (by rfl) T.m_is_body T.f_is_body.kp T.b_is_body .nil pass0 (pa_cons (pv 5) pa_nil)))))))
    (pss_one ps_never)
    pss_nil)))
  (pss_cons (ps_fldK (K := K) (pv 0) (pe_callTy (call_listK (K := K)) (by rfl) T.z_list (by decide +kernel) (pa_cons (pv 1) pa_nil)))
  (pss_cons (ps_fldK (K := K) (pv 0) (pe_ifExp (pt_cmpR op_isN (pv 2) pe_non (nomark _)) (pe_ix (ix_tupK (K := K)) (pe_ix (ix_listK (K := K)) (pv 1) pe_int (fun _ _ => rfl)) pe_int (fun _ _ => rfl)) (pv 2)))
  (pss_cons (ps_if (pt_cmpR (op_notInK (K := K)) (pe_fldK (K := K) (pv 0)) (pe_lc (own := [("name", 4), ("body", 5)]) (tt := tYes) (by rfl) sc_Grammar___init__.nd (pi_listK (K := K) (pv 1)) (blkOk_by (own := [("name", 4), ("body", 5)]) (N := n_Grammar___init__) (sc := (defScope s_Grammar___init__)) (by decide +kernel)) (fun _ _ _ _ _ => (pg_tupK (K := K) (n := 2) (by rfl) (pgs_cons (pg_name (i := 4) sc_Grammar___init__.nd rfl (Or.inl rfl)) (pgs_cons (pg_name (i := 5) sc_Grammar___init__.nd rfl (Or.inl rfl)) pgs_nil)))) (fun _ _ _ _ _ => pts_nil) (fun _ _ _ _ _ => (pv 4))) (by rfl))
    (pss_one ps_never)
    pss_nil)
  (pss_cons (ps_set (i := 6) sc_Grammar___init__.nd rfl (Or.inr rfl) (pe_call G_least_lengths (hr.mono (by decide)) (by rfl) T.m_least_lengths T.f_least_lengths.kp T.b_least_lengths .nil pass0 (pa_cons (pe_fldK (K := K) (pv 0)) pa_nil)))
  (pss_cons (ps_if (pt_cmp (pc_dnotin (hu_of hr) (pe_fldK (K := K) (pv 0)) (pv 6)) (by rfl))
    (pss_one ps_never)
    pss_nil)
  (pss_cons (ps_fldK (K := K) (pv 0) (pe_call G_useful_numbers (hr.mono (by decide)) (by rfl) T.m_useful_numbers T.f_useful_numbers.kp T.b_useful_numbers .nil pass0 (pa_cons (pe_fldK (K := K) (pv 0)) (pa_cons (pe_fldK (K := K) (pv 0)) (pa_cons (pv 6) pa_nil)))))
  (pss_cons (ps_set (i := 7) sc_Grammar___init__.nd rfl (Or.inl rfl) (pe_callB (cr_maxK (K := K) (by rfl)) (by rfl) T.z_max (by decide +kernel) (pa_cons (pe_lc (own := [("number", 3)]) (g := gName 3) (tt := tYes) (by rfl) sc_Grammar___init__.nd (pi_listK (K := K) (pe_fldK (K := K) (pv 0))) (blkOk_by (own := [("number", 3)]) (N := n_Grammar___init__) (sc := (defScope s_Grammar___init__)) (by decide +kernel)) (fun _ _ _ _ _ => (pg_name (i := 3) sc_Grammar___init__.nd rfl (Or.inl rfl))) (fun _ _ _ _ _ => pts_nil) (fun _ _ _ _ _ => (pe_dget (hu_of hr) (pv 6) (pe_ix (ix_tupK (K := K)) (pe_ix (ix_listK (K := K)) (pe_fldK (K := K) (pv 0)) (pv 3) (fun _ _ => rfl)) pe_int (fun _ _ => rfl)) (fun _ _ => rfl)))) pa_nil)))
  (pss_cons (ps_if (pt_cmpR op_gt (pv 7) (pe_globi (by rfl) T.c_MOST_WORD) (nomark _))
    (pss_one ps_never)
    pss_nil)
  (pss_cons (ps_fldK (K := K) (pv 0) (pe_call G_least_derivations (hr.mono (by decide)) (by rfl) T.m_least_derivations T.f_least_derivations.kp T.b_least_derivations .nil pass0 (pa_cons (pe_fldK (K := K) (pv 0)) (pa_cons (pe_fldK (K := K) (pv 0)) (pa_cons (pv 6) pa_nil)))))
  (pss_cons (ps_set (i := 8) sc_Grammar___init__.nd rfl (Or.inl rfl) (pe_callB (cr_maxK (K := K) (by rfl)) (by rfl) T.z_max (by decide +kernel) (pa_cons (pe_lock (pe_lc (own := [("name", 4)]) (g := gName 4) (tt := tYes) (by rfl) sc_Grammar___init__.nd (pi_keys (pe_fldK (K := K) (pv 0))) (blkOk_by (own := [("name", 4)]) (N := n_Grammar___init__) (sc := (defScope s_Grammar___init__)) (by decide +kernel)) (fun _ _ _ _ _ => (pg_name (i := 4) sc_Grammar___init__.nd rfl (Or.inl rfl))) (fun _ _ _ _ _ => pts_nil) (fun _ _ _ _ _ => (pe_ix (ix_tupK (K := K)) (pe_dget (hu_of hr) (pe_fldK (K := K) (pv 0)) (pv 4) (fun _ _ => rfl)) pe_int (fun _ _ => rfl))))) pa_nil)))
  (pss_cons (ps_if (pt_cmpR op_gt (pv 8) (pe_globi (by rfl) T.c_MOST_STEPS) (nomark _))
    (pss_one ps_never)
    pss_nil)
  (pss_cons (ps_set (i := 9) sc_Grammar___init__.nd rfl (Or.inl rfl) (pe_op op_cat (pe_fldK (K := K) (pv 0)) (pe_lst (pa_cons (pe_tup (pa_cons pe_str (pa_cons (pe_op op_add_str (pe_op op_add_str pe_str (pe_fldK (K := K) (pv 0))) pe_str) pa_nil))) pa_nil))))
  (pss_cons (ps_set (i := 10) sc_Grammar___init__.nd rfl (Or.inl rfl) (pe_op op_cat (pe_fldK (K := K) (pv 0)) (pe_lst (pa_cons (pe_callB (call_lenK (K := K)) (by rfl) T.z_len PySem.boot_len (pa_cons (pe_fldK (K := K) (pv 0)) pa_nil)) pa_nil))))
  (pss_cons (ps_lock (ps_setDc (i := 11) (own := [("name", 4)]) (g := gName 4) (by rfl) sc_Grammar___init__.nd rfl rfl (sw_trueD rfl rfl rfl (by decide +kernel)) (pi_keys (pe_fldK (K := K) (pv 0))) (blkOk_by (own := [("name", 4)]) (N := n_Grammar___init__) (sc := (defScope s_Grammar___init__)) (by decide +kernel)) (fun _ _ _ _ _ => (pg_name (i := 4) sc_Grammar___init__.nd rfl (Or.inl rfl))) (fun _ _ _ _ _ => (pts_one (pt_cmpR op_eq (pe_dget (hu_of hr) (pv 6) (pv 4) (fun _ _ => rfl)) pe_int (nomark _)))) (fun _ _ _ _ _ => (pv 4)) (fun _ _ _ _ _ => pe_bl)))
  (pss_cons (ps_fldK (K := K) (pv 0) (pe_make T.k_mk_Table G_Table___init__ (hr.mono (by decide)) (by rfl) T.m_Table T.b_Table___init__ .nil pass0 (pa_cons (pv 9) (pa_cons (pv 10) (pa_cons (pv 11) pa_nil)))))
  (pss_one (ps_fldK (K := K) (pv 0) (pe_make T.k_mk_Table G_Table___init__ (hr.mono (by decide)) (by rfl) T.m_Table T.b_Table___init__ .nil pass0 (pa_cons (pe_lc (own := [("name", 4), ("body", 5)]) (tt := tYes) (by rfl) sc_Grammar___init__.nd (pi_listK (K := K) (pv 9)) (blkOk_by (own := [("name", 4), ("body", 5)]) (N := n_Grammar___init__) (sc := (defScope s_Grammar___init__)) (by decide +kernel)) (fun _ _ _ _ _ => (pg_tupK (K := K) (n := 2) (by rfl) (pgs_cons (pg_name (i := 4) sc_Grammar___init__.nd rfl (Or.inl rfl)) (pgs_cons (pg_name (i := 5) sc_Grammar___init__.nd rfl (Or.inl rfl)) pgs_nil)))) (fun _ _ _ _ _ => pts_nil) (fun _ _ _ _ _ => (pe_tup (pa_cons (pv 4) (pa_cons (pe_revS (pv 5)) pa_nil))))) (pa_cons (pv 10) (pa_cons (pv 11) pa_nil))))))))))))))))))))))), ?_⟩
    have fp : F p = none := sF.free hp
    obtain ⟨n1, n16⟩ := hok.few
    have hrlen : rvs.length = g.rules.length := hal.len
    have isb : ∀ r ∈ g.rules, isName [r.1] = true ∧ isBody r.2 = true := fun r hr => by
      obtain ⟨h1, h2, h3⟩ := hok.rok r hr
      refine ⟨h1, ?_⟩
      unfold isBody
      rw [decide_eq_true h2, Bool.true_and, List.all_eq_true]
      exact h3
    have E0 : Ext F H2 F (upd H2 p (.ins a.Grammar dx [])) := (Ext.refl sF).newM hp
    have hla0 := E0.hh _ _ hla
    -- if not 1 <= len(rules) <= self.MOST_RULES
    obtain ⟨uc, hcon⟩ := T.con_Grammar_MOST_RULES
    refine ⟨_, rfl, la, rvs, rfl, .inl (SqL.of hla0), _, _, rfl, rfl, _, rfl, ?_⟩
    rw [hrlen, decide_eq_true (show (1 : Int) ≤ ((g.rules.length : Nat) : Int) by omega)]
    refine iteT ⟨_, rfl, p, _, dx, [], _, uc, rfl, upd_same, T.k_Grammar, hcon, rfl, _, _, rfl, rfl, _, rfl, ?_⟩
    rw [decide_eq_true (show ((g.rules.length : Nat) : Int) ≤ 16 by omega)]
    refine iteF ?_
    -- for number, (name, body) in enumerate(rules)
    refine ⟨_, rfl, la, rvs, rfl, SqL.of hla0, for_it (walk_enum (K := K) (a := la) (xs := rvs)) (fun i σ H' => ∃ (x3 x4 x5 : Option V),
      σ = [some (.ref p), some (.ref la), some rt, x3, x4, x5, none, none, none, none, none, none] ∧ ∃ F', Ext F H2 F' H' ∧ F' p = none ∧ H' p = some (.ins a.Grammar dx [])) ⟨none, none, none, rfl, F, E0, fp, upd_same⟩ (fun i σ H' _ h => ?_) ?_ ?_⟩
    · obtain ⟨_, _, _, _, F', e, _⟩ := h
      exact SqL.of (e.hh _ _ hla)
    · rintro i y σ H3 H4 hi ⟨x3, x4, x5, rfl, F3, e3, f3, hp3⟩ ⟨T5, x1, x2, rfl, hT5, rfl, hx1, hx2⟩
      obtain rfl := Option.some.inj hx1
      obtain ⟨r, t, hr', rfl, ht⟩ := rule_at hal hx2
      obtain ⟨b1, b2⟩ := isb r (List.mem_of_getElem? hr')
      have e4 := e3.newM hT5 (o := .tup [.int (i : Nat), .ref t])
      refine ⟨T5, _, rfl, SqT.of upd_same, rfl, _, _, rfl, _, _, rfl, t, _, rfl, SqT.of (e4.sm _ _ ht), rfl, _, _, rfl, _, _, rfl, rfl, rfl, ?_⟩
      refine ⟨_, rfl, [r.1], rfl, by rw [sl64]; simp, _, rfl, ?_⟩
      rw [b1]
      refine iteF ⟨_, rfl, F3, r.2, rfl, e4.fh, by have := (hok.rok r (List.mem_of_getElem? hr')).2.1; omega, fun F5 H5 e5 => ⟨_, rfl, ?_⟩⟩
      rw [b2]
      have hp4 : (upd H3 T5 (.tup [.int (i : Nat), .ref t])) p = some (.ins a.Grammar dx []) := by rw [upd_ne (ne_of_none hp3 hT5)]; exact hp3
      exact iteF ⟨_, _, _, rfl, F5, e4.trans e5, e5.nf p (by rw [hp4]; simp) f3, e5.hh _ _ hp4⟩
    rintro σ H3 ⟨x3, x4, x5, rfl, F3, e3, f3, hp3⟩
    clear E0 hla0
    have hla3 := e3.hh _ _ hla
    -- self._rules = list(rules)
    refine ⟨_, rfl, la, rvs, rfl, .inl (SqL.of hla3), fun l hl => ⟨_, rfl, p, _, dx, [], rfl, by rw [upd_ne (ne_of_none hp3 hl)]; exact hp3, T.k_Grammar, T.na_Grammar__rules, (by show 0 < 1000; decide), ?_⟩⟩
    rw [putF_nil]
    have e4 := ((e3.newF hl (o := .lst rvs)).set hp (by rw [upd_ne (fun e => by subst e; rw [hp3] at hl; cases hl)]; exact f3) (o := .ins a.Grammar dx [("_rules", .ref l)]))
    have hlF : (upd F3 l (HO.lst rvs)) l = some (.lst rvs) := upd_same
    have f4 : (upd F3 l (HO.lst rvs)) p = none := by rw [upd_ne (fun e => by subst e; rw [hp3] at hl; cases hl)]; exact f3
    have hp4 : (upd (upd H3 l (.lst rvs)) p (.ins a.Grammar dx [("_rules", .ref l)])) p = some (.ins a.Grammar dx [("_rules", .ref l)]) := upd_same
    generalize upd F3 l (HO.lst rvs) = F4 at e4 hlF f4
    generalize upd (upd H3 l (.lst rvs)) p (.ins a.Grammar dx [("_rules", .ref l)]) = H4 at e4 hp4 ⊢
    clear hp3 f3 hla3 hl
    have hla4 := e4.hh _ _ hla
    -- self.root = rules[0][0] if root is None else root
    have setroot : ∀ (Q2 : L2.St → Hp → Prop) (σ : L2.St), σ[0]? = some (some (.ref p)) → σ[1]? = some (some (.ref la)) → σ[2]? = some (some rt) → Q2 σ (upd H4 p (.ins a.Grammar dx [("_rules", .ref l), ("root", vc g.root)])) →
        sFld K (tVar 0) (tIf (tTest (tOp (fun x y H Q => y = V.non ∧ Q (V.bl (decide (x = V.non))) H) (tVar 2) (tC V.non))) (tOp (rIxT K) (tOp (rIxL K) (tVar 1) (tC (V.int 0))) (tC (V.int 0))) (tVar 2)) "root" { nx := Q2, rt := Q } σ H4 := by
      intro Q2 σ s0 s1 s2 q
      have fin : ∃ a_1 C dx fs, V.ref p = .ref a_1 ∧ H4 a_1 = some (.ins C dx fs) ∧ Cls K C ∧ NoAttr K C "root" ∧ fs.length < 1000 ∧ Q2 σ (upd H4 a_1 (.ins C dx (putF "root" (vc g.root) fs))) := by
        refine ⟨p, _, dx, _, rfl, hp4, T.k_Grammar, T.na_Grammar_root, (by show 1 < 1000; decide), ?_⟩
        rw [putF_ne (by decide), putF_nil]
        exact q
      rcases hrt with ⟨rfl, hr0⟩ | rfl
      · refine ⟨_, s2, rfl, _, rfl, ?_⟩
        rw [decide_eq_true rfl]
        refine iteT ?_
        obtain ⟨r, hr', he⟩ : ∃ r, g.rules[0]? = some r ∧ r.1 = g.root := by
          cases e : g.rules[0]? with
          | none => rw [e] at hr0; cases hr0
          | some r => rw [e] at hr0; exact ⟨r, rfl, Option.some.inj hr0⟩
        obtain ⟨t, ht, u, w1, w2, rfl, hu, h5, h6⟩ := hal.get' hr'
        rw [show w1 = _ from h5, show w2 = _ from h6, he] at hu
        exact ⟨_, s1, la, _, 0, _, rfl, rfl, SqL.of hla4, at_of (j := 0) (v := .ref u) rfl ht, u, _, 0, _, rfl, rfl, SqT.of (e4.sm _ _ hu), rfl, _, s0, fin⟩
      · refine ⟨_, s2, rfl, _, rfl, ?_⟩
        rw [decide_eq_false (by simp)]
        exact iteF ⟨_, s2, _, s0, fin⟩
    refine setroot _ _ rfl rfl rfl ?_
    have hlp : l ≠ p := fun e => by subst e; rw [hlF] at f4; cases f4
    have e5 := e4.set hp f4 (o := .ins a.Grammar dx [("_rules", .ref l), ("root", vc g.root)])
    have hp5 : (upd H4 p (.ins a.Grammar dx [("_rules", .ref l), ("root", vc g.root)])) p = some (.ins a.Grammar dx [("_rules", .ref l), ("root", vc g.root)]) := upd_same
    generalize upd H4 p (.ins a.Grammar dx [("_rules", .ref l), ("root", vc g.root)]) = H5 at e5 hp5 ⊢
    clear setroot hp4
    -- if self.root not in [name for name, body in rules]
    refine ⟨_, rfl, p, _, dx, _, _, rfl, hp5, T.k_Grammar, T.na_Grammar_root, (by repeat (first | exact look_eq | exact look_nil | rw [look_ne (by decide)])), _, rfl, la, rfl, ⟨_, SqL.of (e5.hh _ _ hla)⟩, fun D1 hD1 => ?_⟩
    refine lcmap (walk_list (K := K) (a := la) (xs := rvs)) (r := rC) g.rules (fun r => r.1) hD1 e5.fh hrlen (by rw [sl64]; omega) (fun F6 H6 e6 => SqL.of (e6.hh _ _ (e5.hh _ _ hla))) (fun i r v F6 H6 H7 hr' e6 hy Qy q => ?_) (fun ws F6 H6 e6 fD6 al6 => ?_)
    · obtain ⟨rfl, hy⟩ := hy
      obtain ⟨r2, t, hr2, rfl, ht⟩ := rule_at hal hy
      rw [hr'] at hr2
      obtain rfl := Option.some.inj hr2
      exact ⟨t, _, rfl, SqT.of ((e5.trans e6).sm _ _ ht), rfl, _, _, rfl, _, _, rfl, rfl, rfl, _, rfl, q _ F6 H7 (Ext.refl e6.fh) rfl⟩
    have hws : ws = (g.rules.map (·.1)).map vc := al6.cs
    refine ⟨D1, _, rfl, .inl (SqL.of (e6.fh _ _ fD6)), rfl, by rw [hws]; exact (inV_cs g.root _).1, _, rfl, ?_⟩
    rw [hws, (inV_cs g.root _).2, decide_eq_true hok.here]
    refine iteF ?_
    have e6' := e5.trans e6
    have hp6 := e6.hh _ _ hp5
    have f6 : F6 p = none := e6.nf p (by rw [hp5]; simp) f4
    have hl6 := e6.ff _ _ hlF
    clear hp5 e6 e5 fD6 al6 hD1
    -- lengths = least_lengths(self._rules)
    refine ⟨_, rfl, p, _, dx, _, _, rfl, hp6, T.k_Grammar, T.na_Grammar__rules, (by repeat (first | exact look_eq | exact look_nil | rw [look_ne (by decide)])), F6, _, g.rules, rfl, e6'.fh, ⟨l, rvs, rfl, hl6, hal.mono e6'.ff⟩, hok.rok, fun v F7 H7 e7 hv => ?_⟩
    obtain ⟨dl, lkv, rfl, hdl, adl⟩ := hv
    have e7' := e6'.trans e7
    have hp7 := e7.hh _ _ hp6
    have f7 : F7 p = none := e7.nf p (by rw [hp6]; simp) f6
    have hl7 := e7.ff _ _ hl6
    clear e6' hp6 f6 hl6 e7
    have hlget : ∀ c, (aGet g.lens c).isSome = true → valV lkv (encN c) = some (vn ((aGet g.lens c).getD 0)) := fun c hc => by
      rcases AD.get encN_inj c adl with ⟨h1, h2⟩ | ⟨x, v, h1, h2, h3⟩
      · rw [show aGet g.lens c = none from h1] at hc; cases hc
      · rw [h2, show aGet g.lens c = some x from h1, show v = .int (x : Int) from h3]; rfl
    -- if self.root not in lengths
    refine ⟨_, rfl, p, _, dx, _, _, rfl, hp7, T.k_Grammar, T.na_Grammar_root, (by repeat (first | exact look_eq | exact look_nil | rw [look_ne (by decide)])), _, rfl, dl, _, rfl, SF.DGet.some (k := encN g.root) (e7'.fh _ _ hdl) (hlget _ hok.ends), _, rfl, iteF ?_⟩
    -- self._useful = useful_numbers(self._rules, self.root, lengths)
    refine ⟨_, rfl, p, _, dx, _, _, rfl, hp7, T.k_Grammar, T.na_Grammar__rules, (by repeat (first | exact look_eq | exact look_nil | rw [look_ne (by decide)])), _, rfl, p, _, dx, _, _, rfl, hp7, T.k_Grammar, T.na_Grammar_root, (by repeat (first | exact look_eq | exact look_nil | rw [look_ne (by decide)])), _, rfl, F7, _, _, _, g.rules, g.root, g.lens, rfl, e7'.fh, ⟨l, rvs, rfl, hl7, hal.mono e7'.ff⟩, rfl, ⟨dl, lkv, rfl, hdl, adl⟩, ⟨hok.rok, ?_, n16⟩, fun v F8 H8 e8 hv => ?_⟩
    · obtain ⟨r, hr1, hr2⟩ := List.mem_map.mp hok.here
      rw [← hr2]
      exact (hok.rok r hr1).1
    obtain ⟨ua, uvs, rfl, hua, ual⟩ := hv
    have huv : uvs = g.useful.map vn := by rw [ual.nats, List.map_map]; rfl
    have e8' := e7'.trans e8
    have hp8 := e8.hh _ _ hp7
    have f8 : F8 p = none := e8.nf p (by rw [hp7]; simp) f7
    have hl8 := e8.ff _ _ hl7
    have hdl8 := e8.ff _ _ hdl
    refine ⟨_, rfl, p, _, dx, _, rfl, hp8, T.k_Grammar, T.na_Grammar__useful, (by show 2 < 1000; decide), ?_⟩
    rw [putF_ne (by decide), putF_ne (by decide), putF_nil]
    have e9 := e8'.set hp f8 (o := .ins a.Grammar dx [("_rules", .ref l), ("root", vc g.root), ("_useful", .ref ua)])
    have hp9 : (upd H8 p (.ins a.Grammar dx [("_rules", .ref l), ("root", vc g.root), ("_useful", .ref ua)])) p = some (.ins a.Grammar dx [("_rules", .ref l), ("root", vc g.root), ("_useful", .ref ua)]) := upd_same
    generalize upd H8 p (.ins a.Grammar dx [("_rules", .ref l), ("root", vc g.root), ("_useful", .ref ua)]) = H9 at e9 hp9 ⊢
    have adl8 := adl.mono e8.ff
    clear e8' hp8 e7' hp7 f7 hl7 hdl e8
    have hulen : g.useful.length ≤ 16 := Nat.le_trans useful_len n16
    have hatr : ∀ n ∈ g.useful, ∃ r u, g.rules[n]? = some r ∧ rvs[n]? = some (.ref u) ∧ F u = some (.tup [.str (S [r.1]), .str (S r.2)]) ∧ RuOk g.lens r := fun n hn => by
      obtain ⟨r, h1, h2⟩ := hok.rule hn
      obtain ⟨t, ht, u, w1, w2, rfl, hu, h5, h6⟩ := hal.get' h1
      rw [show w1 = _ from h5, show w2 = _ from h6] at hu
      exact ⟨r, u, h1, ht, hu, h2⟩
    -- longest
    refine ⟨_, rfl, p, _, dx, _, _, rfl, hp9, T.k_Grammar, T.na_Grammar__useful, (by repeat (first | exact look_eq | exact look_nil | rw [look_ne (by decide)])), ua, rfl, ⟨_, SqL.of (e9.fh _ _ hua)⟩, fun D1 hD1 => ?_⟩
    refine lcmap (walk_list (K := K) (a := ua) (xs := uvs)) (r := rNat) g.useful (fun n => (g.rules[n]?.map fun r => (aGet g.lens r.1).getD 0).getD 0) hD1 e9.fh (by rw [huv, List.length_map]) (by rw [sl64]; omega) (fun F6 H6 e6 => SqL.of (e6.sm _ _ hua)) (fun i n v F6 H6 H7 hn' e6 hy Qy q => ?_) (fun ws F10 H10 e10 fD al10 => ?_)
    · obtain ⟨rfl, hy⟩ := hy
      rw [huv] at hy
      obtain ⟨n2, hn2, rfl⟩ := map_get hy
      rw [hn'] at hn2
      obtain rfl := Option.some.inj hn2
      obtain ⟨r, u, h1, h2, h3, h4⟩ := hatr n (List.mem_of_getElem? hn')
      refine ⟨rfl, _, rfl, _, rfl, p, _, dx, _, _, rfl, e6.hh _ _ hp9, T.k_Grammar, T.na_Grammar__rules, (by repeat (first | exact look_eq | exact look_nil | rw [look_ne (by decide)])), _, rfl, l, _, _, _, rfl, rfl, SqL.of (e6.sm _ _ hl8), at_of (j := n) (v := .ref u) rfl h2, u, _, 0, _, rfl, rfl, SqT.of ((e9.trans e6).sm _ _ h3), rfl, dl, _, rfl, SF.DGet.some (k := encN r.1) (e6.sm _ _ hdl8) (hlget _ h4.here), ?_⟩
      refine q _ F6 H7 (Ext.refl e6.fh) ?_
      rw [h1]
      rfl
    have hws : ws = ((g.useful.map fun n => (g.rules[n]?.map fun r => (aGet g.lens r.1).getD 0).getD 0).map fun (x : Nat) => (x : Int)).map V.int := al10.nats
    refine ⟨D1, _, rfl, SqL.of (by rw [e10.fh _ _ fD, hws]), ?_, fun m hm _ => ?_⟩
    · rw [List.length_map, List.length_map]
      exact List.length_pos_iff.mpr hok.some_
    have hm24 : m ≤ 24 := by
      obtain ⟨x, hx, rfl⟩ := List.mem_map.mp hm
      obtain ⟨n, hn, rfl⟩ := List.mem_map.mp hx
      obtain ⟨r, u, h1, h2, h3, h4⟩ := hatr n hn
      rw [h1]
      have := h4.small
      show (((aGet g.lens r.1).getD 0 : Nat) : Int) ≤ 24
      omega
    have e10' := e9.trans e10
    have hp10 := e10.hh _ _ hp9
    have f10 : F10 p = none := e10.nf p (by rw [hp9]; simp) f8
    have hl10 := e10.ff _ _ hl8
    have hdl10 := e10.ff _ _ hdl8
    have hua10 := e10.ff _ _ hua
    clear e9 hp9 f8 hl8 hdl8 hD1 fD al10
    refine ⟨_, rfl, _, _, rfl, rfl, _, rfl, ?_⟩
    rw [decide_eq_false (show ¬ (24 : Int) < m by omega)]
    refine iteF ?_
    have hul10 : Al rNat F10 uvs g.useful := ual.mono e10.ff
    clear ual hua
    -- self._best
    refine ⟨_, rfl, p, _, dx, _, _, rfl, hp10, T.k_Grammar, T.na_Grammar__rules, (by repeat (first | exact look_eq | exact look_nil | rw [look_ne (by decide)])), _, rfl, p, _, dx, _, _, rfl, hp10, T.k_Grammar, T.na_Grammar__useful, (by repeat (first | exact look_eq | exact look_nil | rw [look_ne (by decide)])), _, rfl, F10, _, _, _, g.rules, g.useful, g.lens, rfl, e10'.fh, ⟨l, rvs, rfl, hl10, hal.mono e10'.ff⟩, ⟨ua, uvs, rfl, hua10, hul10⟩, ⟨dl, lkv, rfl, hdl10, adl8.mono e10.ff⟩, ⟨n16, hulen, fun n hn => hok.rule hn⟩, fun v F11 H11 e11 hv => ?_⟩
    obtain ⟨db, bkv, rfl, hdb, adb⟩ := hv
    have e11' := e10'.trans e11
    have hp11 := e11.hh _ _ hp10
    have f11 : F11 p = none := e11.nf p (by rw [hp10]; simp) f10
    have hl11 := e11.ff _ _ hl10
    have hdl11 := e11.ff _ _ hdl10
    have hua11 := e11.ff _ _ hua10
    have hul11 : Al rNat F11 uvs g.useful := hul10.mono e11.ff
    refine ⟨_, rfl, p, _, dx, _, rfl, hp11, T.k_Grammar, T.na_Grammar__best, (by show 3 < 1000; decide), ?_⟩
    rw [putF_ne (by decide), putF_ne (by decide), putF_ne (by decide), putF_nil]
    have e12 := e11'.set hp f11 (o := .ins a.Grammar dx [("_rules", .ref l), ("root", vc g.root), ("_useful", .ref ua), ("_best", .ref db)])
    have hp12 : (upd H11 p (.ins a.Grammar dx [("_rules", .ref l), ("root", vc g.root), ("_useful", .ref ua), ("_best", .ref db)])) p = some (.ins a.Grammar dx [("_rules", .ref l), ("root", vc g.root), ("_useful", .ref ua), ("_best", .ref db)]) := upd_same
    generalize upd H11 p (.ins a.Grammar dx [("_rules", .ref l), ("root", vc g.root), ("_useful", .ref ua), ("_best", .ref db)]) = H12 at e12 hp12 ⊢
    clear e11' hp11 e10' hp10 f10 hl10 hdl10 hua10 e11 hul10
    have bok := hok.bestOk
    have hdb12 := e12.fh _ _ hdb
    have hbp : db ≠ p := fun e => by subst e; rw [hdb12] at hp12; cases hp12
    -- most_steps
    refine ⟨db, _, hdb12, trivial, fun od => ?_⟩
    have hp12' : (upd H12 db (.frz od (.dK bkv))) p = some (.ins a.Grammar dx [("_rules", .ref l), ("root", vc g.root), ("_useful", .ref ua), ("_best", .ref db)]) := by rw [upd_ne hbp.symm]; exact hp12
    have sE : Same (fun _ => none) (upd H12 db (.frz od (.dK bkv))) := fun b o h => by cases h
    refine ⟨_, rfl, p, _, dx, _, _, rfl, hp12', T.k_Grammar, T.na_Grammar__best, (by repeat (first | exact look_eq | exact look_nil | rw [look_ne (by decide)])), db, od, rfl, .inl ⟨bkv, upd_same, fun D1 hD1 => ?_⟩⟩
    have hbget : ∀ q ∈ g.best, ∃ t z, valV bkv (encN q.1) = some (.ref t) ∧ F11 t = some (.tup [vn q.2.a, .str (S q.2.b), z]) := fun q hq => by
      have hq' : aGet g.best q.1 = some q.2 := aGet_of_mem bok.nd hq
      rcases AD.get encN_inj q.1 adb with ⟨h1, h2⟩ | ⟨x, v, h1, h2, t, w1, w2, w3, rfl, h3, h4, h5, _⟩
      · rw [show aGet g.best q.1 = none from h1] at hq'; cases hq'
      · rw [show aGet g.best q.1 = some x from h1] at hq'
        obtain rfl := Option.some.inj hq'
        rw [show w1 = _ from h4, show w2 = _ from h5] at h3
        exact ⟨t, w3, h2, h3⟩
    have hkey : ∀ (i : Nat) (q : Nat × Tri Nat (List Nat) Nat) k v, g.best[i]? = some q → bkv[i]? = some (k, v) → k = encN q.1 := fun i q k v h1 h2 => by
      have key : ∀ {kvs : List (Key × V)} {m : Best} (i : Nat), AD encN rBest F11 kvs m → m[i]? = some q → kvs[i]? = some (k, v) → k = encN q.1 := by
        intro kvs m i h
        induction h generalizing i with
        | nil => intro z; simp at z
        | cons h t ih =>
          cases i with
          | zero =>
            intro z1 z2
            simp at z1 z2
            subst z1
            have := h.1
            rw [z2] at this
            exact this
          | succ i => intro z1 z2; exact ih i (by simpa using z1) (by simpa using z2)
      exact key i adb h1 h2
    refine lcmap (walk_keys (d := db) (o := od) (kvs := bkv)) (r := rNat) g.best (fun q => q.2.a) hD1 sE adb.len (by have := bok.few; rw [sl64]; omega) (fun F6 H6 e6 => e6.hh _ _ upd_same) (fun i q v F6 H6 H7 hq e6 hy Qy qq => ?_) (fun ws F13 H13 e13 fD al13 => ?_)
    · obtain ⟨rfl, k1, v1, hk1, rfl⟩ := hy
      obtain rfl := hkey i q k1 v1 hq hk1
      obtain ⟨t, z, hv, ht⟩ := hbget q (List.mem_of_getElem? hq)
      have ht12 := e12.fh _ _ ht
      have htb : t ≠ db := fun e => by subst e; rw [ht12] at hdb12; cases hdb12
      refine ⟨rfl, _, rfl, p, _, dx, _, _, rfl, e6.hh _ _ hp12', T.k_Grammar, T.na_Grammar__best, (by repeat (first | exact look_eq | exact look_nil | rw [look_ne (by decide)])), _, rfl, db, _, rfl, .inl ⟨bkv, encN q.1, .inr ⟨od, e6.hh _ _ upd_same⟩, rfl, hv.symm⟩, t, _, 0, _, rfl, rfl, SqT.of (e6.hh _ _ (by rw [upd_ne htb]; exact ht12)), rfl, ?_⟩
      exact qq _ F6 H7 (Ext.refl e6.fh) rfl
    have hws : ws = ((g.best.map fun q => q.2.a).map fun (x : Nat) => (x : Int)).map V.int := al13.nats
    have hD13 : H13 D1 = some (.lst ws) := e13.fh _ _ fD
    have hdb13 : H13 db = some (.frz od (.dK bkv)) := e13.hh _ _ upd_same
    have hDb : D1 ≠ db := fun e => by subst e; rw [hD13] at hdb13; cases hdb13
    refine ⟨hdb13, D1, _, rfl, SqL.of (by rw [upd_ne hDb, hD13, hws]), ?_, fun m2 hm2 _ => ?_⟩
    · rw [List.length_map, List.length_map]
      exact List.length_pos_iff.mpr hok.bne
    have hm100 : m2 ≤ 100 := by
      obtain ⟨x, hx, rfl⟩ := List.mem_map.mp hm2
      obtain ⟨q, hq, rfl⟩ := List.mem_map.mp hx
      have := hok.fast q.1 q.2 (aGet_of_mem bok.nd hq)
      show ((q.2.a : Nat) : Int) ≤ 100
      omega
    have s14 : Same H12 (upd H13 db (.dK bkv)) := same_unlock e13.hh hdb12
    have e14 := Ext.all e12.fh s14
    have e14' := e12.trans e14
    have hp14 := e14.hh _ _ hp12
    have f14 := e14.nf p (by rw [hp12]; simp) f11
    have hl14 := e14.ff _ _ hl11
    have hdl14 := e14.ff _ _ hdl11
    have hua14 := e14.ff _ _ hua11
    have hul14 : Al rNat _ uvs g.useful := hul11.mono e14.ff
    have hdb14 := e14.ff _ _ hdb
    have adb14 := adb.mono e14.ff
    generalize allF F11 H12 (upd H13 db (.dK bkv)) = F14 at *
    generalize upd H13 db (HO.dK bkv) = H14 at *
    clear e12 e13 hp12 hp12' hdb12 hdb13 hD13 fD al13 sE s14 e14 hl11 hdl11 hua11 hul11 hdb f11 hD1
    refine ⟨_, rfl, _, _, rfl, rfl, _, rfl, ?_⟩
    rw [decide_eq_false (show ¬ (100 : Int) < m2 by omega)]
    refine iteF ?_
    -- pairs
    refine ⟨_, rfl, p, _, dx, _, _, rfl, hp14, T.k_Grammar, T.na_Grammar__rules, (by repeat (first | exact look_eq | exact look_nil | rw [look_ne (by decide)])), _, rfl, p, _, dx, _, _, rfl, hp14, T.k_Grammar, T.na_Grammar_root, (by repeat (first | exact look_eq | exact look_nil | rw [look_ne (by decide)])), _, _, rfl, rfl, ?_, _, _, rfl, rfl, ?_, (by show 2 ≤ sizeLine; rw [sl64]; omega), fun t0 ht0 => ⟨(by show 1 ≤ sizeLine; rw [sl64]; omega), fun l0 hl0 => ?_⟩⟩
    · rw [S_lt, S_len, S_len, sl64]; simp
    · rw [S_lt, S_gt, S_app, S_len, S_len, sl64]; simp
    rw [S_lt, S_gt, S_ltgt, S_app, S_app] at hl0 ⊢
    have e15 := (e14'.newF ht0 (o := .tup [.str (S [60, 62]), .str (S ([60] ++ [g.root] ++ [62]))])).newF hl0 (o := .lst [.ref t0])
    have E14_15 : Ext F14 H14 _ _ := ((Ext.refl e14'.fh).newF ht0 (o := .tup [.str (S [60, 62]), .str (S ([60] ++ [g.root] ++ [62]))])).newF hl0 (o := .lst [.ref t0])
    have hl15 := E14_15.fh _ _ (E14_15.ff _ _ hl14)
    refine ⟨l, l0, _, _, rfl, rfl, hl15, upd_same, by rw [hrlen, sl64]; show g.rules.length + 1 ≤ _; omega, fun pa hpa => ?_⟩
    have e16 := e15.newF hpa (o := .lst (rvs ++ [.ref t0]))
    have E14_16 := E14_15.newF hpa (o := .lst (rvs ++ [.ref t0]))
    have hpaF := upd_same (H := (upd (upd F14 t0 (HO.tup [V.str (S [60, 62]), V.str (S ([60] ++ [g.root] ++ [62]))])) l0 (HO.lst [V.ref t0]))) (a := pa) (o := .lst (rvs ++ [.ref t0]))
    have ht0F : (upd (upd (upd F14 t0 (HO.tup [V.str (S [60, 62]), V.str (S ([60] ++ [g.root] ++ [62]))])) l0 (HO.lst [V.ref t0])) pa (.lst (rvs ++ [.ref t0]))) t0 = some (HO.tup [V.str (S [60, 62]), V.str (S ([60] ++ [g.root] ++ [62]))]) := by
      have h1 : t0 ≠ l0 := fun e => by subst e; rw [upd_same] at hl0; cases hl0
      have h2 : t0 ≠ pa := fun e => by subst e; rw [upd_ne h1, upd_same] at hpa; cases hpa
      rw [upd_ne h2, upd_ne h1, upd_same]
    have hp16 := E14_16.hh _ _ hp14
    have f16 := E14_16.nf p (by rw [hp14]; simp) f14
    have hl16 := E14_16.ff _ _ hl14
    have hdl16 := E14_16.ff _ _ hdl14
    have hua16 := E14_16.ff _ _ hua14
    have hul16 : Al rNat _ uvs g.useful := hul14.mono E14_16.ff
    have hdb16 := E14_16.ff _ _ hdb14
    have adb16 := adb14.mono E14_16.ff
    clear E14_16 E14_15 e15 hl15 hp14 f14 hl14 hdl14 hua14 hul14 hdb14 adb14 e14'
    generalize upd (upd (upd F14 t0 (HO.tup [V.str (S [60, 62]), V.str (S ([60] ++ [g.root] ++ [62]))])) l0 (HO.lst [V.ref t0])) pa (.lst (rvs ++ [.ref t0])) = F16 at *
    generalize upd (upd (upd H14 t0 (HO.tup [V.str (S [60, 62]), V.str (S ([60] ++ [g.root] ++ [62]))])) l0 (HO.lst [V.ref t0])) pa (.lst (rvs ++ [.ref t0])) = H16 at *
    clear hl0 ht0 hpa
    have hpairs : rL (rP rS rS) F16 (.ref pa) g.pairs := ⟨pa, _, rfl, hpaF, (al_pairs (hal.mono e16.ff)).snoc ⟨t0, _, _, rfl, ht0F, rfl, rfl⟩⟩
    -- numbers
    refine ⟨_, rfl, p, _, dx, _, _, rfl, hp16, T.k_Grammar, T.na_Grammar__useful, (by repeat (first | exact look_eq | exact look_nil | rw [look_ne (by decide)])), _, rfl, p, _, dx, _, _, rfl, hp16, T.k_Grammar, T.na_Grammar__rules, (by repeat (first | exact look_eq | exact look_nil | rw [look_ne (by decide)])), l, _, rfl, .inl (SqL.of (e16.fh _ _ hl16)), (by show 1 ≤ sizeLine; rw [sl64]; omega), fun l1 hl1 => ?_⟩
    have e17 := e16.newF hl1 (o := .lst [.int (rvs.length : Nat)])
    refine ⟨ua, l1, _, _, rfl, rfl, e17.fh _ _ (same_newF e16.fh hl1 _ _ hua16), upd_same, by rw [huv, List.length_map, sl64]; show g.useful.length + 1 ≤ _; omega, fun na hna => ?_⟩
    have E16_18 : Ext F16 H16 _ _ := ((Ext.refl e16.fh).newF hl1 (o := .lst [.int (rvs.length : Nat)])).newF hna (o := .lst (uvs ++ [.int (rvs.length : Nat)]))
    have hnaF := upd_same (H := upd F16 l1 (.lst [.int (rvs.length : Nat)])) (a := na) (o := .lst (uvs ++ [.int (rvs.length : Nat)]))
    have e18 := e16.trans E16_18
    have hnums : rL rNat _ (.ref na) g.numbers := ⟨na, _, rfl, hnaF, (hul16.mono E16_18.ff).snoc (by show V.int _ = V.int _; rw [hrlen])⟩
    have hpairs18 := Mono.mono (r := rL (rP rS rS)) E16_18.ff hpairs
    have hp18 := E16_18.hh _ _ hp16
    have f18 := E16_18.nf p (by rw [hp16]; simp) f16
    have hl18 := E16_18.ff _ _ hl16
    have hdl18 := E16_18.ff _ _ hdl16
    have hua18 := E16_18.ff _ _ hua16
    have hul18 : Al rNat _ uvs g.useful := hul16.mono E16_18.ff
    have hdb18 := E16_18.ff _ _ hdb16
    have adb18 := adb16.mono E16_18.ff
    clear E16_18 e17 hp16 f16 hl16 hdl16 hua16 hul16 hdb16 adb16 e16 hpairs hpaF ht0F hnaF
    generalize upd (upd F16 l1 (.lst [.int (rvs.length : Nat)])) na (.lst (uvs ++ [.int (rvs.length : Nat)])) = F18 at *
    generalize upd (upd H16 l1 (.lst [.int (rvs.length : Nat)])) na (.lst (uvs ++ [.int (rvs.length : Nat)])) = H18 at *
    clear hl1 hna
    -- vanishing
    have hdbH := e18.fh _ _ hdb18
    have hbp : db ≠ p := fun e => by subst e; rw [hdbH] at hp18; cases hp18
    refine ⟨db, _, hdbH, trivial, fun od => ?_⟩
    have hp18' : (upd H18 db (.frz od (.dK bkv))) p = some (.ins a.Grammar dx [("_rules", .ref l), ("root", vc g.root), ("_useful", .ref ua), ("_best", .ref db)]) := by rw [upd_ne hbp.symm]; exact hp18
    have hdlb : dl ≠ db ∨ dl = db := (Decidable.em _).symm
    refine ⟨_, rfl, p, _, dx, _, _, rfl, hp18', T.k_Grammar, T.na_Grammar__best, (by repeat (first | exact look_eq | exact look_nil | rw [look_ne (by decide)])), db, od, rfl, .inl ⟨bkv, upd_same, fun D hD => ?_⟩⟩
    let vanU : Best → List (Nat × Bool) := fun bs => ((bs.map (·.1)).filter fun c => decide ((aGet g.lens c).getD 0 = 0)).map fun c => (c, true)
    refine dc_it (walk_keys (d := db) (o := od) (kvs := bkv)) (fun i H' => Same (upd H18 db (.frz od (.dK bkv))) H' ∧ ∃ kvs, H' D = some (.dK kvs) ∧ AD encN rB (fun _ => none) kvs (vanU (g.best.take i))) ?_ (fun i H' _ h => h.1 _ _ upd_same) (fun i x H3 H4 hi h hy => ?_) (fun H' h => ?_)
    · exact ⟨fun b o hb => by rw [upd_ne (ne_of_none hb hD)]; exact hb, [], upd_same, .nil⟩
    · obtain ⟨sm, kvs, hDk, adk⟩ := h
      obtain ⟨rfl, k1, v1, hk1, rfl⟩ := hy
      have hi2 : i < g.best.length := by rw [show g.best.length = bkv.length from adb18.len.symm]; exact hi
      have hq : g.best[i]? = some g.best[i] := List.getElem?_eq_getElem hi2
      generalize g.best[i] = q at hq
      obtain rfl := hkey i q k1 v1 hq hk1
      have hql : (aGet g.lens q.1).isSome = true := bok.hl q.1 (List.mem_map_of_mem (List.mem_of_getElem? hq))
      have hdl4 : Rd H4 dl (.dK lkv) := by
        rcases hdlb with h | h
        · exact .inl (sm _ _ (by rw [upd_ne h]; exact e18.fh _ _ hdl18))
        · subst h
          have : lkv = bkv := by
            have h1 := e18.fh _ _ hdl18
            rw [hdbH] at h1
            injection h1 with h1
            injection h1 with h1
            exact h1.symm
          subst this
          exact .inr ⟨od, sm _ _ upd_same⟩
      refine ⟨rfl, _, rfl, _, rfl, dl, _, rfl, .inl ⟨lkv, encN q.1, hdl4, rfl, (hlget _ hql).symm⟩, rfl, _, rfl, ?_⟩
      have htk : vanU (g.best.take (i + 1)) = vanU (g.best.take i) ++ (if (aGet g.lens q.1).getD 0 = 0 then [(q.1, true)] else []) := by
        show List.map _ (List.filter _ (List.map _ _)) = _
        rw [take_more hq, List.map_append, List.filter_append, List.map_append]
        congr 1
        by_cases h0 : (aGet g.lens q.1).getD 0 = 0
        · simp [h0]
        · simp [h0]
      rw [dec_ii]
      by_cases h0 : (aGet g.lens q.1).getD 0 = 0
      · rw [decide_eq_true (show (((aGet g.lens q.1).getD 0 : Nat) : Int) = 0 by omega)]
        refine iteT ⟨_, rfl, kvs, encN q.1, rfl, hDk, ?_, fun b o hb => ?_, _, upd_same, ?_⟩
        · rw [adk.len]
          show (List.map _ (List.filter _ (List.map _ _))).length < _
          have h1 := List.length_filter_le (fun c => decide ((aGet g.lens c).getD 0 = 0)) ((g.best.take i).map (·.1))
          rw [List.length_map, List.length_take] at h1
          rw [List.length_map, sl64]
          have := bok.few
          omega
        · rw [upd_ne (ne_of_none hb hD)]; exact sm _ _ hb
        · rw [htk, if_pos h0]
          have hnew : aGet (vanU (g.best.take i)) q.1 = none := by
            refine aGet_none.mpr fun hm => ?_
            obtain ⟨x, hx, he⟩ := List.mem_map.mp hm
            obtain ⟨c, hc, rfl⟩ := List.mem_map.mp hx
            have hc2 := (List.mem_filter.mp hc).1
            rw [List.map_take] at hc2
            have := nodup_take bok.nd (i := i) (x := q.1) (by rw [List.getElem?_map, hq]; rfl)
            exact this (he ▸ hc2)
          rw [← aPut_new hnew]
          exact adk.put encN_inj (r := rB) rfl
      · rw [decide_eq_false (show ¬ (((aGet g.lens q.1).getD 0 : Nat) : Int) = 0 by omega)]
        refine iteF ⟨sm, kvs, hDk, ?_⟩
        rw [htk, if_neg h0, List.append_nil]
        exact adk
    obtain ⟨sm, kvs, hDk, adk⟩ := h
    rw [show bkv.length = g.best.length from adb18.len, List.take_length] at adk
    have hdbH' : H' db = some (.frz od (.dK bkv)) := sm _ _ upd_same
    have hDb : D ≠ db := fun e => by subst e; rw [hDk] at hdbH'; cases hdbH'
    have hDn : H18 D = none := by rw [upd_ne hDb] at hD; exact hD
    refine ⟨hdbH', ?_⟩
    have e19 := Ext.all e18.fh (same_unlock sm hdbH)
    have hvan : rD encN rB (allF F18 H18 (upd H' db (.dK bkv))) (.ref D) g.van := ⟨D, kvs, rfl, (allF_new hDn).trans (by rw [upd_ne hDb]; exact hDk), adk.mono (fun b o h => by cases h)⟩
    have e20 := e18.trans e19
    have hp20 := e19.hh _ _ hp18
    have f20 := e19.nf p (by rw [hp18]; simp) f18
    have hl20 := e19.ff _ _ hl18
    have hua20 := e19.ff _ _ hua18
    have hul20 : Al rNat _ uvs g.useful := hul18.mono e19.ff
    have hdb20 := e19.ff _ _ hdb18
    have adb20 := adb18.mono e19.ff
    have hpairs20 := Mono.mono (r := rL (rP rS rS)) e19.ff hpairs18
    have hnums20 := Mono.mono (r := rL rNat) e19.ff hnums
    clear e19 hp18 f18 hl18 hdl18 hua18 hul18 hdb18 adb18 hpairs18 hnums hdbH' hdbH hDk adk sm hp18' hD e18 hDn
    generalize allF F18 H18 (upd H' db (.dK bkv)) = F20 at *
    generalize upd H' db (.dK bkv) = H20 at *
    have hbnd : ∀ n ∈ g.numbers, n < g.pairs.length := fun n hn => by
      unfold Gram.numbers at hn
      unfold Gram.pairs
      rw [List.length_append, List.length_map]
      rcases List.mem_append.mp hn with h | h
      · obtain ⟨r, h1, _⟩ := hok.rule h
        have := (List.getElem?_eq_some_iff.mp h1).1
        show n < g.rules.length + 1
        omega
      · simp at h
        subst h
        exact Nat.lt_succ_self _
    have hnlen : g.numbers.length ≤ 1000 := by
      unfold Gram.numbers
      rw [List.length_append]
      show g.useful.length + 1 ≤ 1000
      omega
    -- self.forward
    refine ⟨_, rfl, _, rfl, _, rfl, fun x xd hx hxd hne => ?_⟩
    have e21 := e20.newM hxd (o := .own x)
    refine ⟨F20, upd H20 xd (.own x), x, xd, pa, na, D, g.pairs, g.numbers, g.van, rfl, by rw [upd_ne (fun e => hne e.symm)]; exact hx, rfl, e21.fh, hpairs20, hnums20, hvan, hbnd, hnlen, fun F22 H22 e22 htab => ⟨rfl, ?_⟩⟩
    have e22' := e21.trans e22
    have ex : Ext F20 H20 F22 H22 := ((Ext.refl e20.fh).newM hxd (o := .own x)).trans e22
    have hp22 := ex.hh _ _ hp20
    have f22 := ex.nf p (by rw [hp20]; simp) f20
    have hl22 := ex.ff _ _ hl20
    have hua22 := ex.ff _ _ hua20
    have hul22 : Al rNat _ uvs g.useful := hul20.mono ex.ff
    have hdb22 := ex.ff _ _ hdb20
    have adb22 := adb20.mono ex.ff
    have hpairs22 := Mono.mono (r := rL (rP rS rS)) ex.ff hpairs20
    have hnums22 := Mono.mono (r := rL rNat) ex.ff hnums20
    have hvan22 := Mono.mono (r := rD encN rB) ex.ff hvan
    clear ex e22 e21 hp20 f20 hl20 hua20 hul20 hdb20 adb20 hpairs20 hnums20 hvan e20 hx hxd
    refine ⟨_, rfl, p, _, dx, _, rfl, hp22, T.k_Grammar, T.na_Grammar_forward, (by show 4 < 1000; decide), ?_⟩
    rw [putF_ne (by decide), putF_ne (by decide), putF_ne (by decide), putF_ne (by decide), putF_nil]
    have e23 := e22'.set hp f22 (o := .ins a.Grammar dx [("_rules", .ref l), ("root", vc g.root), ("_useful", .ref ua), ("_best", .ref db), ("forward", .ref x)])
    have hp23 : (upd H22 p (.ins a.Grammar dx [("_rules", .ref l), ("root", vc g.root), ("_useful", .ref ua), ("_best", .ref db), ("forward", .ref x)])) p = some (.ins a.Grammar dx [("_rules", .ref l), ("root", vc g.root), ("_useful", .ref ua), ("_best", .ref db), ("forward", .ref x)]) := upd_same
    generalize upd H22 p (.ins a.Grammar dx [("_rules", .ref l), ("root", vc g.root), ("_useful", .ref ua), ("_best", .ref db), ("forward", .ref x)]) = H23 at e23 hp23 ⊢
    clear e22' hp22
    -- self.backward
    obtain ⟨_, pvs, epa, hpa, pal⟩ := id hpairs22
    cases epa
    have hplen : g.pairs.length ≤ 17 := by
      unfold Gram.pairs
      rw [List.length_append, List.length_map]
      show g.rules.length + 1 ≤ 17
      omega
    refine ⟨_, rfl, pa, rfl, ⟨_, SqL.of (e23.fh _ _ hpa)⟩, fun D2 hD2 => ?_⟩
    refine lcmap (walk_list (K := K) (a := pa) (xs := pvs)) (r := rP rS rS) g.pairs (fun q => (q.1, q.2.reverse)) hD2 e23.fh pal.len (by rw [sl64]; omega) (fun F6 H6 e6 => SqL.of (e6.sm _ _ hpa)) (fun i q v F6 H6 H7 hq e6 hy Qy qq => ?_) (fun ws F24 H24 e24 fD al24 => ?_)
    · obtain ⟨rfl, hy⟩ := hy
      obtain ⟨q2, hq2, t, u1, u2, rfl, ht, h5, h6⟩ := pal.get hy
      rw [hq] at hq2
      obtain rfl := Option.some.inj hq2
      rw [show u1 = _ from h5, show u2 = _ from h6] at ht
      have hql : q.2.length ≤ 4 := by
        have := List.mem_of_getElem? hq
        unfold Gram.pairs at this
        rcases List.mem_append.mp this with h | h
        · obtain ⟨r, hr, rfl⟩ := List.mem_map.mp h
          exact (hok.rok r hr).2.1
        · simp at h
          subst h
          simp
      refine ⟨t, _, rfl, SqT.of (e6.sm _ _ ht), rfl, _, _, rfl, _, _, rfl, rfl, rfl, _, rfl, _, rfl, q.2, rfl, by rw [sl64]; omega, (by show 2 ≤ sizeLine; rw [sl64]; omega), fun t2 ht2 => ?_⟩
      exact qq _ _ _ ((Ext.refl e6.fh).newF ht2) ⟨t2, _, _, rfl, upd_same, rfl, rfl⟩
    refine ⟨_, rfl, _, rfl, fun x2 xd2 hx2 hxd2 hne2 => ?_⟩
    have e24' := e23.trans e24
    have e25 := e24'.newM hxd2 (o := .own x2)
    refine ⟨F24, upd H24 xd2 (.own x2), x2, xd2, D2, na, D, g.pairs.map fun q => (q.1, q.2.reverse), g.numbers, g.van, rfl, by rw [upd_ne (fun e => hne2 e.symm)]; exact hx2, rfl, e25.fh, ⟨D2, ws, rfl, fD, al24⟩, Mono.mono (r := rL rNat) e24.ff hnums22, Mono.mono (r := rD encN rB) e24.ff hvan22, fun n hn => by rw [List.length_map]; exact hbnd n hn, hnlen, fun F26 H26 e26 htab2 => ⟨rfl, ?_⟩⟩
    have ex : Ext F22 H23 F26 H26 := (e24.newM hxd2 (o := .own x2)).trans e26
    have hp26 := ex.hh _ _ hp23
    have f26 := ex.nf p (by rw [hp23]; simp) f22
    refine ⟨_, rfl, p, _, dx, _, rfl, hp26, T.k_Grammar, T.na_Grammar_backward, (by show 5 < 1000; decide), ?_⟩
    rw [putF_ne (by decide), putF_ne (by decide), putF_ne (by decide), putF_ne (by decide), putF_ne (by decide), putF_nil]
    have e27 := (e23.trans ex).set hp f26 (o := .ins a.Grammar dx (gfs (.ref l) g.root (.ref ua) (.ref db) (.ref x) (.ref x2)))
    have e28 := e27.frz hp upd_same f26
    have sm28 : Same F26 (upd F26 p (.ins a.Grammar dx (gfs (.ref l) g.root (.ref ua) (.ref db) (.ref x) (.ref x2)))) := fun b o hb => by rw [upd_ne (ne_of_none hb f26)]; exact hb
    have sm22 := ex.ff
    refine k _ _ e28 ⟨p, dx, .ref l, .ref ua, .ref db, .ref x, .ref x2, rfl, upd_same, Mono.mono sm28 ⟨l, rvs, rfl, sm22 _ _ hl22, hal.mono (e23.trans ex).ff⟩, Mono.mono sm28 ⟨ua, uvs, rfl, sm22 _ _ hua22, hul22.mono sm22⟩, Mono.mono sm28 ⟨db, bkv, rfl, sm22 _ _ hdb22, adb22.mono sm22⟩, Mono.mono sm28 (Mono.mono sm22 htab), Mono.mono sm28 htab2⟩
end
end SF
namespace SF
open PySem PySem.Spec PyProof.Rows L2
def sp_rules (G C : Addr) : Sp := fun vs H Q _ => ∃ (F : Hp) (v : V) (g : Gram), vs = [v] ∧ Same F H ∧ rGram G C F v g ∧ ∀ l rvs, H l = none → Al rRule F rvs g.rules → Q (.ref l) (upd H l (.lst rvs))
def sp_cell (K : PySem.W.Frag) : Sp := fun vs H Q _ => ∃ (a : Addr) (ns : List Int) (k : Nat), vs = [.ref a, .int k] ∧ SqL K H a (ns.map V.int) ∧ Q (.int (ns[k]?.getD 0)) H
def sp_draws : Sp := fun vs H Q _ => ∃ (F : Hp) (c : Int) (n : Nat), vs = [.int c, .int n] ∧ n ≤ 1000 ∧ Same F H ∧ ∀ v F' H', Ext F H F' H' → rL rNat F' v (draws c n) → Q v H'
section
variable {P : Program} {w : World} {K : PySem.W.Frag} {mg : Str → Option Value} {base : Heap} {a : Ad}
theorem ok_rules (T : Txt K mg a) : FnOk P w K mg base CX0 1 a.Grammar_rules a.d_Grammar_rules ["self"] (sp_rules a.Grammar a.Table) := by
  refine T.f_Grammar_rules.ok sc_Grammar_rules (fun vs H Q E h => ?_) (fun cdv A outer s H vs Q E hr h => ?_)
  · obtain ⟨F, v, g, rfl, _⟩ := h; rfl
  · obtain ⟨F, v, g, rfl, sF, ⟨p, dx, u0, u2, u3, u4, u5, rfl, hp, ⟨la, rvs, rfl, hla, hal⟩, _⟩, k⟩ := h
    refine ⟨_, (pss_one (ps_ret (pe_callTy (call_listK (K := K)) (by rfl) T.z_list (by decide +kernel) (pa_cons (pe_fldK (K := K) (pv 0)) pa_nil)))), ?_⟩
    exact ⟨_, rfl, p, _, dx, _, _, rfl, sF _ _ hp, T.k_Grammar, T.na_Grammar__rules, look_eq, la, rvs, rfl, .inl (SqL.of (sF _ _ hla)), fun l hl => k l rvs hl hal⟩
theorem ok_cell (T : Txt K mg a) : FnOk P w K mg base CX0 1 a._law_cell a.d__law_cell ["_law_script", "_law_k"] (sp_cell K) := by
  refine T.f__law_cell.ok sc__law_cell (fun vs H Q E h => ?_) (fun cdv A outer s H vs Q E hr h => ?_)
  · obtain ⟨q, ns, k, rfl, _⟩ := h; rfl
  · obtain ⟨q, ns, k, rfl, hq, hk⟩ := h
    refine ⟨_, (pss_cons (ps_if (pt_cmpR op_lt (pv 1) (pe_callB (call_lenK (K := K)) (by rfl) T.z_len PySem.boot_len (pa_cons (pv 0) pa_nil)) (nomark _))
    (pss_one (ps_ret (pe_ix (ix_listK (K := K)) (pv 0) (pv 1) (fun _ _ => rfl))))
    pss_nil)
  (pss_one (ps_ret pe_int))), ?_⟩
    refine ⟨_, rfl, _, rfl, q, _, rfl, .inl hq, _, _, rfl, rfl, _, rfl, ?_⟩
    rw [List.length_map]
    by_cases hlt : k < ns.length
    · rw [decide_eq_true (show ((k : Nat) : Int) < ((ns.length : Nat) : Int) by omega)]
      refine iteT ⟨_, rfl, _, rfl, q, _, _, .int ns[k], rfl, rfl, hq, at_of (j := k) rfl (by rw [List.getElem?_map, List.getElem?_eq_getElem hlt]; rfl), ?_⟩
      rw [List.getElem?_eq_getElem hlt] at hk
      exact hk
    · rw [decide_eq_false (show ¬ ((k : Nat) : Int) < ((ns.length : Nat) : Int) by omega)]
      refine iteF ?_
      rw [List.getElem?_eq_none (by omega)] at hk
      exact hk
theorem ok_draws (T : Txt K mg a) : FnOk P w K mg base CX0 1 a._law_draws a.d__law_draws ["_law_cell_here", "_law_many"] sp_draws := by
  refine T.f__law_draws.ok sc__law_draws (fun vs H Q E h => ?_) (fun cdv A outer s H vs Q E hr h => ?_)
  · obtain ⟨F, c, n, rfl, _⟩ := h; rfl
  · obtain ⟨F, c, n, rfl, hn, sF, k⟩ := h
    refine ⟨_, (pss_cons (ps_set (i := 2) sc__law_draws.nd rfl (Or.inl rfl) (pe_lst pa_nil))
  (pss_cons (ps_set (i := 3) sc__law_draws.nd rfl (Or.inl rfl) (pe_op op_sub (pv 0) (pe_op op_pow pe_int pe_int)))
  (pss_cons (ps_set (i := 4) sc__law_draws.nd rfl (Or.inl rfl) (pe_op op_mod (pe_callTy call_int1 (by rfl) T.z_int (by decide +kernel) (pa_cons (pv 0) pa_nil)) pe_int))
  (pss_cons (ps_for PassesOwn.never rfl (pi_range1 (by rfl) T.z_range (pa_cons (pv 1) pa_nil)) (pg_name (i := 5) sc__law_draws.nd rfl (Or.inl rfl))
    (pss_cons (ps_set (i := 4) sc__law_draws.nd rfl (Or.inl rfl) (pe_op op_mod (pe_callTy call_int1 (by rfl) T.z_int (by decide +kernel) (pa_cons (pe_op op_add (pe_op op_add (pe_op op_mul (pv 4) pe_int) pe_int) (pv 5)) pa_nil)) pe_int))
  (pss_one (ps_if (pt_cmpR op_gt (pv 3) pe_int (nomark _))
    (pss_cons (ps_expr (pe_bmK (K := K) PySem.F.plainAttrs_list PySem.F.slot_list_append PySem.F.type_list_append mt_append (pv 2) (pa_cons (pe_op op_mod (pe_callTy call_int1 (by rfl) T.z_int (by decide +kernel) (pa_cons (pv 3) pa_nil)) pe_int) pa_nil)))
  (pss_one (ps_set (i := 3) sc__law_draws.nd rfl (Or.inl rfl) (pe_op op_fdiv (pv 3) pe_int))))
    (pss_one (ps_expr (pe_bmK (K := K) PySem.F.plainAttrs_list PySem.F.slot_list_append PySem.F.type_list_append mt_append (pv 2) (pa_cons (pe_op op_mod (pe_op op_fdiv (pv 4) pe_int) pe_int) pa_nil))))))))
  (pss_one (ps_ret (pv 2))))))), ?_⟩
    refine ⟨by rw [sl64]; simp, fun l hl => ?_⟩
    refine ⟨_, rfl, _, _, rfl, rfl, ⟨by decide, by decide, by decide⟩, _, _, rfl, rfl, ?_⟩
    refine ⟨_, rfl, .inl ⟨_, rfl, _, _, rfl, rfl, (by show (0 : Int) < 10007; decide), ?_⟩⟩
    have hm0 : c % 10007 = (((c % 10007).toNat : Nat) : Int) := by omega
    refine ⟨_, rfl, _, rfl, by omega, by omega, ?_⟩
    rw [Int.toNat_natCast]
    refine for_range (lo := 0) (n := n) (fun i σ H' => ∃ x5 : Option V, σ = [some (.int c), some (.int (n : Nat)), some (.ref l), some (.int (lawSt c i).2.1), some (vn (lawSt c i).2.2), x5] ∧ Ext F H F H' ∧ H' l = some (.lst ((lawSt c i).1.map vn))) ⟨none, ?_, (Ext.refl sF).newM hl, upd_same⟩ ?_ ?_
    · dsimp only
      rw [hm0]
      rfl
    · rintro i σ H1 hi ⟨x5, rfl, e1, hl1⟩
      have hmx := lawSt_mixed c i
      have hlen := draws_len c i
      unfold draws at hlen
      rw [lawSt_succ]
      generalize lawSt c i = st at hl1 hmx hlen ⊢
      obtain ⟨row, rest, mixed⟩ := st
      have fl : F l = none := sF.free hl
      refine ⟨_, rfl, _, _, rfl, rfl, .inr ⟨by decide, by decide⟩, _, _, rfl, rfl, _, rfl, _, _, rfl, rfl, .inl ⟨_, rfl, _, _, rfl, rfl, (by show (0 : Int) < 10007; decide), ?_⟩⟩
      dsimp only
      have hmm : ((mixed : Nat) : Int) * 137 + 71 + (0 + ((i : Nat) : Int)) = (((mixed * 137 + 71 + i : Nat)) : Int) := by omega
      rw [hmm]
      have hmm2 : (((mixed * 137 + 71 + i : Nat)) : Int) % 10007 = ((((mixed * 137 + 71 + i) % 10007 : Nat)) : Int) := by omega
      rw [hmm2]
      refine ⟨_, rfl, _, _, rfl, rfl, _, rfl, ?_⟩
      unfold lawStep
      dsimp only
      by_cases hr0 : 0 < rest
      · rw [decide_eq_true hr0, if_pos hr0]
        refine iteT ⟨_, rfl, .inl ⟨rfl, _, SqL.of hl1⟩, _, rfl, .inl ⟨_, rfl, _, _, rfl, rfl, (by show (0 : Int) < 100; decide), l, _, _, rfl, rfl, hl1, by rw [List.length_map, sl64]; show row.length < _; have : row.length = i := hlen; omega, ?_⟩⟩
        refine ⟨_, rfl, _, _, rfl, rfl, ⟨by decide, by decide⟩, _, rfl, e1.set hl fl, ?_⟩
        rw [upd_same, List.map_append]
        have : (((rest % 100).toNat : Nat) : Int) = rest % 100 := by omega
        show _ = some (HO.lst (row.map vn ++ [V.int _]))
        rw [this]
      · rw [decide_eq_false hr0, if_neg hr0]
        refine iteF ⟨_, rfl, .inl ⟨rfl, _, SqL.of hl1⟩, _, rfl, _, _, rfl, rfl, ⟨by decide, by decide⟩, _, _, rfl, rfl, (by show (0 : Int) < 100; decide), l, _, _, rfl, rfl, hl1, by rw [List.length_map, sl64]; show row.length < _; have : row.length = i := hlen; omega, ?_⟩
        refine ⟨_, rfl, e1.set hl fl, ?_⟩
        rw [upd_same, List.map_append]
        have : ((((mixed * 137 + 71 + i) % 10007 / 7 % 100 : Nat)) : Int) = (((mixed * 137 + 71 + i) % 10007 : Nat) : Int) / 7 % 100 := by omega
        show _ = some (HO.lst (row.map vn ++ [V.int _]))
        rw [this]
    · rintro σ H6 ⟨x5, rfl, e6, hl6⟩
      have fl : F l = none := sF.free hl
      refine ⟨_, rfl, k _ _ H6 (e6.frz hl hl6 fl) ⟨l, _, rfl, upd_same, ?_⟩⟩
      exact al_nats _
def sp_names : Sp := fun vs H Q _ => ∃ (F : Hp) (v : V) (d : List Nat), vs = [v] ∧ Same F H ∧ rL rNat F v d ∧ 42 ≤ d.length ∧ (∀ x ∈ d, x < 100) ∧ ∀ v F' H', Ext F H F' H' → rL rC F' v (lawNames d) → Q v H'
def sp_signs : Sp := fun vs H Q _ => ∃ (F : Hp) (v : V) (d : List Nat), vs = [v] ∧ Same F H ∧ rL rNat F v d ∧ 42 ≤ d.length ∧ (∀ x ∈ d, x < 100) ∧ ∀ v F' H', Ext F H F' H' → rL rC F' v (lawSigns d) → Q v H'
theorem dg_at {d : List Nat} {i : Nat} (h : i < d.length) : (d.map vn)[i]? = some (vn (dg d i)) := by
  rw [List.getElem?_map, List.getElem?_eq_getElem h]
  unfold dg
  rw [List.getElem?_eq_getElem h]
  rfl
theorem dg_get {l : List Nat} {i : Nat} (h : i < l.length) : l[i]? = some (dg l i) := by
  unfold dg
  rw [List.getElem?_eq_getElem h]
  rfl
theorem dg_lt {d : List Nat} {B : Nat} (h : ∀ x ∈ d, x < B) (hB : 0 < B) (i : Nat) : dg d i < B := by
  unfold dg
  cases e : d[i]? with
  | none => exact hB
  | some x => exact h x (List.mem_of_getElem? e)
theorem S_letters : (Str.ofString "ABCDEFGHIJKLMNOPQRSTUVWXYZ") = S ((List.range 26).map (65 + ·)) := by decide +kernel
theorem S_every : (Str.ofString "abcdefghijklmnopqrstuvwxyz0123456789()[]{}+-*/,.;:!?") = S SIGNSl := by decide +kernel
theorem ok_names (T : Txt K mg a) : FnOk P w K mg base CX0 1 a._law_names a.d__law_names ["_law_draws_here"] sp_names := by
  refine T.f__law_names.ok sc__law_names (fun vs H Q E h => ?_) (fun cdv A outer s H vs Q E hr h => ?_)
  · obtain ⟨F, v, d, rfl, _⟩ := h; rfl
  · obtain ⟨F, _, d, rfl, sF, ⟨da, dvs, rfl, hda, dal⟩, h42, h100, k⟩ := h
    refine ⟨_, (pss_cons (ps_set (i := 1) sc__law_names.nd rfl (Or.inr rfl) pe_str)
  (pss_one (ps_ret (pe_lc (own := [("_law_k", 2)]) (g := gName 2) (tt := tYes) (by rfl) sc__law_names.nd (pi_range1 (by rfl) T.z_range (pa_cons (pe_op op_add pe_int (pe_op op_mod (pe_ix (ix_listK (K := K)) (pv 0) pe_int (fun _ _ => rfl)) pe_int)) pa_nil)) (blkOk_by (own := [("_law_k", 2)]) (N := n__law_names) (sc := (defScope s__law_names)) (by decide +kernel)) (fun _ _ _ _ _ => (pg_name (i := 2) sc__law_names.nd rfl (Or.inl rfl))) (fun _ _ _ _ _ => pts_nil) (fun _ _ _ _ _ => (pe_ix ix_str (pv 1) (pe_op op_mod (pe_op op_add (pe_ix (ix_listK (K := K)) (pv 0) pe_int (fun _ _ => rfl)) (pe_op op_mul (pv 2) (pe_op op_add pe_int (pe_op op_mod (pe_ix (ix_listK (K := K)) (pv 0) pe_int (fun _ _ => rfl)) pe_int)))) pe_int) (fun _ _ => rfl))))))), ?_⟩
    have hdv : dvs = d.map vn := by rw [dal.nats, List.map_map]; rfl
    subst hdv
    have hdH := sF _ _ hda
    refine ⟨_, rfl, da, _, _, vn (dg d (2)), rfl, rfl, SqL.of hdH, at_of (j := 2) (by first | rfl | omega) (dg_at (by omega)), _, _, rfl, rfl, (by show (0 : Int) < 3; decide), _, _, rfl, rfl, ?_⟩
    dsimp only
    refine ⟨_, rfl, by omega, by omega, fun D hD => ?_⟩
    have en : (1 + ((dg d 2 : Nat) : Int) % 3).toNat = 1 + dg d 2 % 3 := by omega
    rw [en]
    refine lc_rng (r := rC) (fun k => 65 + (dg d 0 + k * (1 + dg d 1 % 12)) % 26) hD sF (by rw [sl64]; omega) (fun i F4 H4 hi e4 Qy q => ?_) (fun ws F5 H5 e5 fD al => k _ F5 H5 e5 ⟨D, ws, rfl, fD, al⟩)
    have hd4 := e4.sm _ _ hda
    refine ⟨rfl, _, rfl, _, rfl, da, _, _, vn (dg d (0)), rfl, rfl, SqL.of hd4, at_of (j := 0) (by first | rfl | omega) (dg_at (by omega)), _, rfl, _, rfl, da, _, _, vn (dg d (1)), rfl, rfl, SqL.of hd4, at_of (j := 1) (by first | rfl | omega) (dg_at (by omega)), _, _, rfl, rfl, (by show (0 : Int) < 12; decide), _, _, rfl, rfl, _, _, rfl, rfl, .inl ⟨?_, ?_⟩, _, _, rfl, rfl, _, _, rfl, rfl, (by show (0 : Int) < 26; decide), ?_⟩
    · omega
    · omega
    dsimp only
    have ei : (((dg d 0 : Nat) : Int) + (0 + (i : Nat)) * (1 + ((dg d 1 : Nat) : Int) % 12)) % 26 = (((dg d 0 + i * (1 + dg d 1 % 12)) % 26 : Nat) : Int) := by
      rw [Int.zero_add]
      push_cast
      rfl
    refine ⟨_, _, 65 + (dg d 0 + i * (1 + dg d 1 % 12)) % 26, rfl, rfl, ?_, ?_, ?_⟩
    · rw [S_letters, S_len, sl64]; simp
    · rw [S_letters, S_cps]
      have hlt : (dg d 0 + i * (1 + dg d 1 % 12)) % 26 < 26 := Nat.mod_lt _ (by decide)
      refine at_ofG (j := (dg d 0 + i * (1 + dg d 1 % 12)) % 26) ei ?_
      rw [List.getElem?_map, List.getElem?_range hlt]
      rfl
    · exact q _ F4 H4 (Ext.refl e4.fh) rfl
theorem ok_signs (T : Txt K mg a) : FnOk P w K mg base CX0 1 a._law_signs a.d__law_signs ["_law_draws_here"] sp_signs := by
  refine T.f__law_signs.ok sc__law_signs (fun vs H Q E h => ?_) (fun cdv A outer s H vs Q E hr h => ?_)
  · obtain ⟨F, v, d, rfl, _⟩ := h; rfl
  · obtain ⟨F, _, d, rfl, sF, ⟨da, dvs, rfl, hda, dal⟩, h42, h100, k⟩ := h
    refine ⟨_, (pss_cons (ps_set (i := 1) sc__law_signs.nd rfl (Or.inr rfl) pe_str)
  (pss_one (ps_ret (pe_lc (own := [("_law_k", 2)]) (g := gName 2) (tt := tYes) (by rfl) sc__law_signs.nd (pi_range1 (by rfl) T.z_range (pa_cons (pe_op op_add pe_int (pe_op op_mod (pe_ix (ix_listK (K := K)) (pv 0) pe_int (fun _ _ => rfl)) pe_int)) pa_nil)) (blkOk_by (own := [("_law_k", 2)]) (N := n__law_signs) (sc := (defScope s__law_signs)) (by decide +kernel)) (fun _ _ _ _ _ => (pg_name (i := 2) sc__law_signs.nd rfl (Or.inl rfl))) (fun _ _ _ _ _ => pts_nil) (fun _ _ _ _ _ => (pe_ix ix_str (pv 1) (pe_op op_mod (pe_op op_add (pe_ix (ix_listK (K := K)) (pv 0) pe_int (fun _ _ => rfl)) (pe_op op_mul (pv 2) (pe_op op_add pe_int (pe_op op_mod (pe_ix (ix_listK (K := K)) (pv 0) pe_int (fun _ _ => rfl)) pe_int)))) pe_int) (fun _ _ => rfl))))))), ?_⟩
    have hdv : dvs = d.map vn := by rw [dal.nats, List.map_map]; rfl
    subst hdv
    have hdH := sF _ _ hda
    refine ⟨_, rfl, da, _, _, vn (dg d (5)), rfl, rfl, SqL.of hdH, at_of (j := 5) (by first | rfl | omega) (dg_at (by omega)), _, _, rfl, rfl, (by show (0 : Int) < 3; decide), _, _, rfl, rfl, ?_⟩
    dsimp only
    refine ⟨_, rfl, by omega, by omega, fun D hD => ?_⟩
    have en : (1 + ((dg d 5 : Nat) : Int) % 3).toNat = 1 + dg d 5 % 3 := by omega
    rw [en]
    refine lc_rng (r := rC) (fun k => dg SIGNSl ((dg d 3 + k * (1 + dg d 4 % 17)) % 52)) hD sF (by rw [sl64]; omega) (fun i F4 H4 hi e4 Qy q => ?_) (fun ws F5 H5 e5 fD al => k _ F5 H5 e5 ⟨D, ws, rfl, fD, al⟩)
    have hd4 := e4.sm _ _ hda
    refine ⟨rfl, _, rfl, _, rfl, da, _, _, vn (dg d (3)), rfl, rfl, SqL.of hd4, at_of (j := 3) (by first | rfl | omega) (dg_at (by omega)), _, rfl, _, rfl, da, _, _, vn (dg d (4)), rfl, rfl, SqL.of hd4, at_of (j := 4) (by first | rfl | omega) (dg_at (by omega)), _, _, rfl, rfl, (by show (0 : Int) < 17; decide), _, _, rfl, rfl, _, _, rfl, rfl, .inl ⟨?_, ?_⟩, _, _, rfl, rfl, _, _, rfl, rfl, (by show (0 : Int) < 52; decide), ?_⟩
    · omega
    · omega
    dsimp only
    have ei : (((dg d 3 : Nat) : Int) + (0 + (i : Nat)) * (1 + ((dg d 4 : Nat) : Int) % 17)) % 52 = (((dg d 3 + i * (1 + dg d 4 % 17)) % 52 : Nat) : Int) := by
      rw [Int.zero_add]
      push_cast
      rfl
    have hlt : (dg d 3 + i * (1 + dg d 4 % 17)) % 52 < 52 := Nat.mod_lt _ (by decide)
    refine ⟨_, _, dg SIGNSl ((dg d 3 + i * (1 + dg d 4 % 17)) % 52), rfl, rfl, ?_, ?_, ?_⟩
    · rw [S_every, S_len, sl64]; decide
    · rw [S_every, S_cps]
      refine at_ofG (j := (dg d 3 + i * (1 + dg d 4 % 17)) % 52) ei ?_
      exact dg_get hlt
    · exact q _ F4 H4 (Ext.refl e4.fh) rfl
end
end SF
namespace SF
open PySem PySem.Spec PyProof.Rows L2
def sp_known : Sp := fun vs H Q _ => ∃ (F : Hp) (n : Nat) (nv sv : V) (names signs : List Nat), vs = [.int n, nv, sv] ∧ Same F H ∧ rL rC F nv names ∧ rL rC F sv signs ∧ 1 ≤ names.length ∧ 1 ≤ signs.length ∧ ∀ v F' H', Ext F H F' H' → rL rRule F' v (lawKnown n names signs) → Q v H'
theorem cs_at {l : List Nat} {i : Nat} (h : i < l.length) : (l.map vc)[i]? = some (vc (dg l i)) := by
  rw [List.getElem?_map, List.getElem?_eq_getElem h]
  unfold dg
  rw [List.getElem?_eq_getElem h]
  rfl
theorem rd_at {l : List Nat} {n : Nat} (h : 1 ≤ l.length) : (l.map vc)[n % l.length]? = some (vc (rd l n)) := cs_at (Nat.mod_lt _ h)
section
variable {P : Program} {w : World} {K : PySem.W.Frag} {mg : Str → Option Value} {base : Heap} {a : Ad}
theorem ok_known (T : Txt K mg a) : FnOk P w K mg base CX0 1 a._law_known a.d__law_known ["_law_number", "_law_names_here", "_law_signs_here"] sp_known := by
  refine T.f__law_known.ok sc__law_known (fun vs H Q E h => ?_) (fun cdv A outer s H vs Q E hr h => ?_)
  · obtain ⟨F, n, nv, sv, x, y, rfl, _⟩ := h; rfl
  · obtain ⟨F, n, _, _, names, signs, rfl, sF, ⟨na, nvs, rfl, hna, nal⟩, ⟨sa, svs, rfl, hsa, sal⟩, h1, h2, k⟩ := h
    refine ⟨_, (pss_cons (ps_set (i := 3) sc__law_known.nd rfl (Or.inl rfl) (pe_ix (ix_listK (K := K)) (pv 1) pe_int (fun _ _ => rfl)))
  (pss_cons (ps_set (i := 4) sc__law_known.nd rfl (Or.inl rfl) (pe_ix (ix_listK (K := K)) (pv 1) (pe_op op_mod pe_int (pe_callB (call_lenK (K := K)) (by rfl) T.z_len PySem.boot_len (pa_cons (pv 1) pa_nil))) (fun _ _ => rfl)))
  (pss_cons (ps_set (i := 5) sc__law_known.nd rfl (Or.inl rfl) (pe_ix (ix_listK (K := K)) (pv 1) (pe_op op_mod pe_int (pe_callB (call_lenK (K := K)) (by rfl) T.z_len PySem.boot_len (pa_cons (pv 1) pa_nil))) (fun _ _ => rfl)))
  (pss_cons (ps_set (i := 6) sc__law_known.nd rfl (Or.inl rfl) (pe_ix (ix_listK (K := K)) (pv 2) pe_int (fun _ _ => rfl)))
  (pss_cons (ps_set (i := 7) sc__law_known.nd rfl (Or.inl rfl) (pe_ix (ix_listK (K := K)) (pv 2) (pe_op op_mod pe_int (pe_callB (call_lenK (K := K)) (by rfl) T.z_len PySem.boot_len (pa_cons (pv 2) pa_nil))) (fun _ _ => rfl)))
  (pss_cons (ps_set (i := 8) sc__law_known.nd rfl (Or.inl rfl) (pe_ix (ix_listK (K := K)) (pv 2) (pe_op op_mod pe_int (pe_callB (call_lenK (K := K)) (by rfl) T.z_len PySem.boot_len (pa_cons (pv 2) pa_nil))) (fun _ _ => rfl)))
  (pss_cons (ps_set (i := 9) sc__law_known.nd rfl (Or.inl rfl) (pe_lst (pa_cons (pe_lst (pa_cons (pe_tup (pa_cons (pv 3) (pa_cons (pe_op op_add_str (pe_op op_add_str (pv 6) (pv 3)) (pv 7)) pa_nil))) pa_nil)) (pa_cons (pe_lst (pa_cons (pe_tup (pa_cons (pv 3) (pa_cons (pe_op op_add_str (pe_op op_add_str (pe_op op_add_str (pv 6) (pv 3)) (pv 7)) (pv 3)) pa_nil))) pa_nil)) (pa_cons (pe_lst (pa_cons (pe_tup (pa_cons (pv 3) (pa_cons (pe_op op_add_str (pe_op op_add_str (pv 4) (pv 8)) (pv 3)) pa_nil))) (pa_cons (pe_tup (pa_cons (pv 3) (pa_cons (pv 4) pa_nil))) (pa_cons (pe_tup (pa_cons (pv 4) (pa_cons (pe_op op_add_str (pe_op op_add_str (pv 6) (pv 3)) (pv 7)) pa_nil))) pa_nil)))) (pa_cons (pe_lst (pa_cons (pe_tup (pa_cons (pv 3) (pa_cons (pe_op op_add_str (pe_op op_add_str (pv 6) (pv 3)) (pv 6)) pa_nil))) (pa_cons (pe_tup (pa_cons (pv 3) (pa_cons (pe_op op_add_str (pe_op op_add_str (pv 7) (pv 3)) (pv 7)) pa_nil))) pa_nil))) (pa_cons (pe_lst (pa_cons (pe_tup (pa_cons (pv 3) (pa_cons (pe_op op_add_str (pv 4) (pv 5)) pa_nil))) (pa_cons (pe_tup (pa_cons (pv 4) (pa_cons (pe_op op_add_str (pv 6) (pv 4)) pa_nil))) (pa_cons (pe_tup (pa_cons (pv 5) (pa_cons (pe_op op_add_str (pv 5) (pv 7)) pa_nil))) pa_nil)))) (pa_cons (pe_lst (pa_cons (pe_tup (pa_cons (pv 3) (pa_cons (pe_op op_add_str (pv 3) (pv 3)) pa_nil))) (pa_cons (pe_tup (pa_cons (pv 3) (pa_cons (pe_op op_add_str (pe_op op_add_str (pv 6) (pv 3)) (pv 7)) pa_nil))) pa_nil))) (pa_cons (pe_lst (pa_cons (pe_tup (pa_cons (pv 3) (pa_cons (pe_op op_add_str (pv 6) (pv 4)) pa_nil))) (pa_cons (pe_tup (pa_cons (pv 4) (pa_cons (pe_op op_add_str (pv 7) (pv 3)) pa_nil))) (pa_cons (pe_tup (pa_cons (pv 4) (pa_cons (pe_op op_add_str (pv 8) (pv 5)) pa_nil))) (pa_cons (pe_tup (pa_cons (pv 5) (pa_cons (pe_op op_add_str (pv 6) (pv 5)) pa_nil))) pa_nil))))) (pa_cons (pe_lst (pa_cons (pe_tup (pa_cons (pv 3) (pa_cons (pe_op op_add_str (pe_op op_add_str (pv 4) (pv 6)) (pv 5)) pa_nil))) (pa_cons (pe_tup (pa_cons (pv 4) (pa_cons (pe_op op_add_str (pv 5) (pv 4)) pa_nil))) (pa_cons (pe_tup (pa_cons (pv 5) (pa_cons (pv 7) pa_nil))) pa_nil)))) pa_nil))))))))))
  (pss_one (ps_ret (pe_ix (ix_listK (K := K)) (pv 9) (pe_op op_mod (pv 0) pe_int) (fun _ _ => rfl))))))))))), ?_⟩
    obtain rfl : nvs = names.map vc := nal.cs
    obtain rfl : svs = signs.map vc := sal.cs
    have hnH := sF _ _ hna
    have hsH := sF _ _ hsa
    have mod1 : ∀ (i : Nat) (l : List Nat), ((i : Nat) : Int) % (((l.map vc).length : Nat) : Int) = ((i % l.length : Nat) : Int) := fun i l => by rw [List.length_map]; omega
    have pos : ∀ l : List Nat, 1 ≤ l.length → (0 : Int) < (((l.map vc).length : Nat) : Int) := fun l h => by rw [List.length_map]; omega
    refine ⟨_, rfl, na, _, _, vc (dg names 0), rfl, rfl, SqL.of hnH, at_of (j := 0) rfl (cs_at (by omega)), ?_⟩
    refine ⟨_, rfl, _, rfl, na, _, rfl, .inl (SqL.of hnH), _, _, rfl, rfl, pos names h1, na, _, _, vc (rd names 1), rfl, rfl, SqL.of hnH, at_of (j := 1 % names.length) (mod1 1 names) (rd_at h1), ?_⟩
    refine ⟨_, rfl, _, rfl, na, _, rfl, .inl (SqL.of hnH), _, _, rfl, rfl, pos names h1, na, _, _, vc (rd names 2), rfl, rfl, SqL.of hnH, at_of (j := 2 % names.length) (mod1 2 names) (rd_at h1), ?_⟩
    refine ⟨_, rfl, sa, _, _, vc (dg signs 0), rfl, rfl, SqL.of hsH, at_of (j := 0) rfl (cs_at (by omega)), ?_⟩
    refine ⟨_, rfl, _, rfl, sa, _, rfl, .inl (SqL.of hsH), _, _, rfl, rfl, pos signs h2, sa, _, _, vc (rd signs 1), rfl, rfl, SqL.of hsH, at_of (j := 1 % signs.length) (mod1 1 signs) (rd_at h2), ?_⟩
    refine ⟨_, rfl, _, rfl, sa, _, rfl, .inl (SqL.of hsH), _, _, rfl, rfl, pos signs h2, sa, _, _, vc (rd signs 2), rfl, rfl, SqL.of hsH, at_of (j := 2 % signs.length) (mod1 2 signs) (rd_at h2), ?_⟩
    generalize hS : dg names 0 = S0
    generalize hA : rd names 1 = A0
    generalize hB : rd names 2 = B0
    generalize hX : dg signs 0 = X0
    generalize hY : rd signs 1 = Y0
    generalize hZ : rd signs 2 = Z0
    unfold gName
    dsimp only
    unfold tSeq tAsg
    dsimp only
    refine menu_mk_use (s := S0) (a := A0) (b := B0) (x := X0) (y := Y0) (z := Z0) rfl rfl rfl rfl rfl rfl sF fun v F1 H1 e1 hv => ?_
    obtain ⟨ma, mvs, rfl, hma, mal⟩ := hv
    have hn8 : n % 8 < 8 := Nat.mod_lt _ (by decide)
    have hk : ∃ rules, ([[(S0, [X0] ++ [S0] ++ [Y0])], [(S0, [X0] ++ [S0] ++ [Y0] ++ [S0])], [(S0, [A0] ++ [Z0] ++ [S0]), (S0, [A0]), (A0, [X0] ++ [S0] ++ [Y0])], [(S0, [X0] ++ [S0] ++ [X0]), (S0, [Y0] ++ [S0] ++ [Y0])], [(S0, [A0] ++ [B0]), (A0, [X0] ++ [A0]), (B0, [B0] ++ [Y0])],
        [(S0, [S0] ++ [S0]), (S0, [X0] ++ [S0] ++ [Y0])], [(S0, [X0] ++ [A0]), (A0, [Y0] ++ [S0]), (A0, [Z0] ++ [B0]), (B0, [X0] ++ [B0])], [(S0, [A0] ++ [X0] ++ [B0]), (A0, [B0] ++ [A0]), (B0, [Y0])]] : List (List Rule))[n % 8]? = some rules ∧ rules = lawKnown n names signs := by
      unfold lawKnown
      rw [hS, hA, hB, hX, hY, hZ]
      dsimp only
      generalize n % 8 = i at hn8
      have hcase : i = 0 ∨ i = 1 ∨ i = 2 ∨ i = 3 ∨ i = 4 ∨ i = 5 ∨ i = 6 ∨ i = 7 := by omega
      rcases hcase with rfl | rfl | rfl | rfl | rfl | rfl | rfl | rfl <;> exact ⟨_, rfl, rfl⟩
    obtain ⟨rules, hr1, hr2⟩ := hk
    obtain ⟨rv, hrv, hrr⟩ := mal.get' hr1
    refine ⟨_, rfl, _, rfl, _, _, rfl, rfl, (by show (0 : Int) < 8; decide), ma, _, _, rv, rfl, rfl, SqL.of (e1.fh _ _ hma), at_of (j := n % 8) (by omega) hrv, ?_⟩
    rw [hr2] at hrr
    exact k rv F1 H1 e1 hrr
end
end SF
namespace SF
open PySem PySem.Spec PyProof.Rows L2
theorem with_ends {t : L2.TS} {D : Ends} {σ : L2.St} {H : Hp} (N : L2.St → Hp → Prop) (hN : ∀ σ H, N σ H → D.nx σ H) (h : ∀ D' : Ends, (∀ σ H, N σ H → D'.nx σ H) → t D' σ H) : t D σ H := h D hN
theorem seq_with {t u : L2.TS} {D : Ends} {σ : L2.St} {H : Hp} (N : L2.St → Hp → Prop) (hN : ∀ σ H, N σ H → u D σ H) (h : ∀ D' : Ends, (∀ σ H, N σ H → D'.nx σ H) → t D' σ H) : tSeq t u D σ H := h { D with nx := u D } hN
theorem gName_in {i : Nat} {v : V} {σ : L2.St} {H : Hp} {Q : L2.St → Hp → Prop} (h : Q (σ.set i (some v)) H) : gName i v σ H Q := h
theorem Al.take {α : Type} {r : Rl α} {F : Hp} : ∀ {vs : List V} {xs : List α} (n : Nat), Al r F vs xs → Al r F (vs.take n) (xs.take n)
  | _, _, 0, _ => .nil
  | _, _, n + 1, .nil => .nil
  | _, _, n + 1, .cons h t => .cons h (Al.take n t)
theorem Al.drop {α : Type} {r : Rl α} {F : Hp} : ∀ {vs : List V} {xs : List α} (n : Nat), Al r F vs xs → Al r F (vs.drop n) (xs.drop n)
  | _, _, 0, h => h
  | _, _, n + 1, .nil => .nil
  | _, _, n + 1, .cons _ t => Al.drop n t
theorem Al.ins {α : Type} {r : Rl α} {F : Hp} {vs : List V} {xs : List α} (n : Nat) {v : V} {x : α} (h : Al r F vs xs) (q : r F v x) : Al r F (vs.take n ++ [v] ++ vs.drop n) (insAt xs n x) := ((h.take n).snoc q).app (h.drop n)
def sp_grammar : Sp := fun vs H Q _ => ∃ (F : Hp) (v : V) (d : List Nat), vs = [v] ∧ Same F H ∧ rL rNat F v d ∧ 42 ≤ d.length ∧ (∀ x ∈ d, x < 100) ∧ ∀ v F' H', Ext F H F' H' → rL rRule F' v (lawGrammar d) → Q v H'
section
variable {P : Program} {w : World} {K : PySem.W.Frag} {mg : Str → Option Value} {base : Heap} {a : Ad}
theorem ok_grammar (T : Txt K mg a) : FnOk P w K mg base CX0 2 a._law_grammar a.d__law_grammar ["_law_draws_here"] sp_grammar := by
  have G__law_names := ok_names (P := P) (w := w) (base := base) T
  have G__law_signs := ok_signs (P := P) (w := w) (base := base) T
  have G__law_known := ok_known (P := P) (w := w) (base := base) T
  refine T.f__law_grammar.ok sc__law_grammar (fun vs H Q E h => ?_) (fun cdv A outer s H vs Q E hr h => ?_)
  · obtain ⟨F, v, d, rfl, _⟩ := h; rfl
  · obtain ⟨F, _, d, rfl, sF, ⟨da, dvs, rfl, hda, dal⟩, h42, h100, k⟩ := h
    refine ⟨_, (pss_cons (ps_set (i := 1) sc__law_grammar.nd rfl (Or.inl rfl) (pe_call G__law_names (hr.mono (by decide)) (by rfl) T.m__law_names T.f__law_names.kp T.b__law_names .nil pass0 (pa_cons (pv 0) pa_nil)))
  (pss_cons (ps_set (i := 2) sc__law_grammar.nd rfl (Or.inl rfl) (pe_call G__law_signs (hr.mono (by decide)) (by rfl) T.m__law_signs T.f__law_signs.kp T.b__law_signs .nil pass0 (pa_cons (pv 0) pa_nil)))
  (pss_cons (ps_set (i := 3) sc__law_grammar.nd rfl (Or.inl rfl) (pe_op op_cat (pv 1) (pv 2)))
  (pss_cons (ps_set (i := 4) sc__law_grammar.nd rfl (Or.inl rfl) (pe_lst pa_nil))
  (pss_cons (ps_if (pt_cmpR op_eq (pe_op op_mod (pe_ix (ix_listK (K := K)) (pv 0) pe_int (fun _ _ => rfl)) pe_int) pe_int (nomark _))
    (pss_one (ps_set (i := 4) sc__law_grammar.nd rfl (Or.inl rfl) (pe_callTy (call_listK (K := K)) (by rfl) T.z_list (by decide +kernel) (pa_cons (pe_call G__law_known (hr.mono (by decide)) (by rfl) T.m__law_known T.f__law_known.kp T.b__law_known .nil pass0 (pa_cons (pe_ix (ix_listK (K := K)) (pv 0) pe_int (fun _ _ => rfl)) (pa_cons (pv 1) (pa_cons (pv 2) pa_nil)))) pa_nil))))
    (pss_one (ps_for PassesOwn.never rfl (pi_range1 (by rfl) T.z_range (pa_cons (pe_op op_mod (pe_op op_fdiv (pe_ix (ix_listK (K := K)) (pv 0) pe_int (fun _ _ => rfl)) pe_int) pe_int) pa_nil)) (pg_name (i := 5) sc__law_grammar.nd rfl (Or.inl rfl))
    (pss_cons (ps_set (i := 6) sc__law_grammar.nd rfl (Or.inl rfl) (pe_op op_add pe_int (pe_op op_mul pe_int (pv 5))))
  (pss_cons (ps_set (i := 7) sc__law_grammar.nd rfl (Or.inl rfl) pe_str)
  (pss_cons (ps_for PassesOwn.never rfl (pi_range1 (by rfl) T.z_range (pa_cons (pe_op op_mod (pe_ix (ix_listK (K := K)) (pv 0) (pe_op op_add (pv 6) pe_int) (fun _ _ => rfl)) pe_int) pa_nil)) (pg_name (i := 8) sc__law_grammar.nd rfl (Or.inl rfl))
    (pss_one (ps_set (i := 7) sc__law_grammar.nd rfl (Or.inl rfl) (pe_op op_add_str (pv 7) (pe_ix (ix_listK (K := K)) (pv 3) (pe_op op_mod (pe_ix (ix_listK (K := K)) (pv 0) (pe_op op_add (pe_op op_add (pv 6) pe_int) (pv 8)) (fun _ _ => rfl)) (pe_callB (call_lenK (K := K)) (by rfl) T.z_len PySem.boot_len (pa_cons (pv 3) pa_nil))) (fun _ _ => rfl))))))
  (pss_one (ps_expr (pe_bmK (K := K) PySem.F.plainAttrs_list PySem.F.slot_list_append PySem.F.type_list_append mt_append (pv 4) (pa_cons (pe_tup (pa_cons (pe_ix (ix_listK (K := K)) (pv 1) (pe_op op_mod (pe_ix (ix_listK (K := K)) (pv 0) (pv 6) (fun _ _ => rfl)) (pe_callB (call_lenK (K := K)) (by rfl) T.z_len PySem.boot_len (pa_cons (pv 1) pa_nil))) (fun _ _ => rfl)) (pa_cons (pv 7) pa_nil))) pa_nil))))))))))
  (pss_cons (ps_for PassesOwn.never rfl (pi_range1 (by rfl) T.z_range (pa_cons (pe_callB (call_lenK (K := K)) (by rfl) T.z_len PySem.boot_len (pa_cons (pv 1) pa_nil)) pa_nil)) (pg_name (i := 5) sc__law_grammar.nd rfl (Or.inl rfl))
    (pss_cons (ps_set (i := 6) sc__law_grammar.nd rfl (Or.inl rfl) (pe_op op_add pe_int (pe_op op_mul pe_int (pv 5))))
  (pss_cons (ps_set (i := 9) sc__law_grammar.nd rfl (Or.inl rfl) (pe_ix (ix_listK (K := K)) (pv 2) (pe_op op_mod (pe_ix (ix_listK (K := K)) (pv 0) (pe_op op_add (pv 6) pe_int) (fun _ _ => rfl)) (pe_callB (call_lenK (K := K)) (by rfl) T.z_len PySem.boot_len (pa_cons (pv 2) pa_nil))) (fun _ _ => rfl)))
  (pss_cons (ps_set (i := 10) sc__law_grammar.nd rfl (Or.inl rfl) (pe_ix (ix_listK (K := K)) (pe_lst (pa_cons pe_str (pa_cons (pv 9) (pa_cons (pe_op op_add_str (pv 9) (pe_ix (ix_listK (K := K)) (pv 2) (pe_op op_mod (pe_op op_fdiv (pe_ix (ix_listK (K := K)) (pv 0) (pe_op op_add (pv 6) pe_int) (fun _ _ => rfl)) pe_int) (pe_callB (call_lenK (K := K)) (by rfl) T.z_len PySem.boot_len (pa_cons (pv 2) pa_nil))) (fun _ _ => rfl))) (pa_cons (pv 9) pa_nil))))) (pe_op op_mod (pe_ix (ix_listK (K := K)) (pv 0) (pv 6) (fun _ _ => rfl)) pe_int) (fun _ _ => rfl)))
  (pss_one (ps_if (PW.pt (pw_or (pt_cmpR op_eq (pv 5) pe_int (nomark _)) (pw_or1 (pt_cmpR op_lt (pe_op op_mod (pe_ix (ix_listK (K := K)) (pv 0) (pv 6) (fun _ _ => rfl)) pe_int) pe_int (nomark _)))))
    (pss_one (ps_expr (pe_bmK (K := K) PySem.F.plainAttrs_list PySem.F.slot_list_insert PySem.F.type_list_insert mt_insert (pv 4) (pa_cons (pe_op op_mod (pe_ix (ix_listK (K := K)) (pv 0) (pe_op op_add (pv 6) pe_int) (fun _ _ => rfl)) (pe_op op_add (pe_callB (call_lenK (K := K)) (by rfl) T.z_len PySem.boot_len (pa_cons (pv 4) pa_nil)) pe_int)) (pa_cons (pe_tup (pa_cons (pe_ix (ix_listK (K := K)) (pv 1) (pv 5) (fun _ _ => rfl)) (pa_cons (pv 10) pa_nil))) pa_nil)))))
    pss_nil))))))
  (pss_one (ps_ret (pv 4))))))))), ?_⟩
    obtain rfl : dvs = d.map vn := by rw [dal.nats, List.map_map]; rfl
    refine ⟨_, rfl, F, _, d, rfl, sF, ⟨da, _, rfl, hda, dal⟩, h42, h100, fun v F1 H1 e1 hv => ?_⟩
    obtain ⟨na, nvs, rfl, hna, nal⟩ := hv
    obtain rfl : nvs = (lawNames d).map vc := nal.cs
    refine ⟨_, rfl, F1, _, d, rfl, e1.fh, ⟨da, _, rfl, e1.ff _ _ hda, dal.mono e1.ff⟩, h42, h100, fun v F2 H2 e2 hv => ?_⟩
    obtain ⟨sa, svs, rfl, hsa, sal⟩ := hv
    obtain rfl : svs = (lawSigns d).map vc := sal.cs
    obtain ⟨n1, n3⟩ := lawNames_len d
    obtain ⟨s1, s3⟩ := lawSigns_len d
    generalize hnames : lawNames d = names at *
    generalize hsigns : lawSigns d = signs at *
    have hna2 := e2.ff _ _ hna
    refine ⟨_, rfl, _, rfl, na, sa, _, _, rfl, rfl, e2.fh _ _ hna2, e2.fh _ _ hsa, by rw [List.length_map, List.length_map, sl64]; omega, fun pa hpa => ?_⟩
    have e12 := e1.trans e2
    have e3 := e12.newF hpa (o := .lst (names.map vc ++ signs.map vc))
    have e3' := (Ext.refl e2.fh).newF hpa (o := .lst (names.map vc ++ signs.map vc))
    have hpaF := upd_same (H := F2) (a := pa) (o := .lst (names.map vc ++ signs.map vc))
    have hna3 := e3'.ff _ _ hna2
    have hsa3 := e3'.ff _ _ hsa
    have hda3 := e3.ff _ _ hda
    rw [← List.map_append] at hpaF hna3 hsa3 hda3 e3 ⊢
    generalize upd F2 pa (.lst ((names ++ signs).map vc)) = F3 at *
    generalize upd H2 pa (.lst ((names ++ signs).map vc)) = H3 at *
    clear e3' e12 hna2 hsa hpa e2 e1 hna nal sal
    refine ⟨by rw [sl64]; simp, fun l hl => ?_⟩
    have e4 := e3.newM hl (o := .lst [])
    have hl0 : H l = none := e3.free hl
    refine gName_in ?_
    dsimp only
    refine seq_with (t := tIfS _ _ _) (fun σ H' => ∃ (L : Addr) (x5 x6 x7 x8 : Option V) (F' : Hp) (rvs : List V), σ = [some (.ref da), some (.ref na), some (.ref sa), some (.ref pa), some (.ref L), x5, x6, x7, x8, none, none] ∧ Ext F H F' H' ∧ Same F3 F' ∧ H L = none ∧ F' L = none ∧
      H' L = some (.lst rvs) ∧ Al rRule F' rvs (lawRules0 d names signs)) (fun σ H' hst => ?_) (fun D' hD' => ?_)
    · obtain ⟨L, x5, x6, x7, x8, F4, rvs4, rfl, e4', s4, hL0, f4, hL4, al4⟩ := hst
      have hn4 := e4'.fh _ _ (s4 _ _ hna3)
      refine ⟨_, rfl, na, _, rfl, .inl (SqL.of hn4), _, rfl, by rw [List.length_map]; omega, by rw [List.length_map]; omega, ?_⟩
      rw [Int.toNat_natCast, List.length_map]
      refine for_range (lo := 0) (n := names.length) (fun i σ H' => ∃ (x5 x6 x7 x8 x9 x10 : Option V) (F' : Hp) (rvs : List V), σ = [some (.ref da), some (.ref na), some (.ref sa), some (.ref pa), some (.ref L), x5, x6, x7, x8, x9, x10] ∧ Ext F H F' H' ∧ Same F3 F' ∧ F' L = none ∧
        H' L = some (.lst rvs) ∧ Al rRule F' rvs ((List.range i).foldl (lawEnd d names signs) (lawRules0 d names signs))) ⟨x5, x6, x7, x8, none, none, F4, rvs4, rfl, e4', s4, f4, hL4, al4⟩ ?_ ?_
      · rintro i σ H5 hi ⟨x5, x6, x7, x8, x9, x10, F5, rvs, rfl, e5, s5, f5, hL5, al5⟩
        rw [List.range_succ, List.foldl_append]
        have hrl : ((List.range i).foldl (lawEnd d names signs) (lawRules0 d names signs)).length ≤ 5 + i := (ends_ok d names signs n1 s1 (by rw [← hsigns]; exact lawSigns_sgn d) i (by omega)).2.1
        generalize (List.range i).foldl (lawEnd d names signs) (lawRules0 d names signs) = rules at al5 hrl ⊢
        rw [show List.foldl (lawEnd d names signs) rules [i] = lawEnd d names signs rules i from rfl]
        have hd5 := e5.fh _ _ (s5 _ _ hda3)
        have hn5 := e5.fh _ _ (s5 _ _ hna3)
        have hs5 := e5.fh _ _ (s5 _ _ hsa3)
        refine ⟨_, rfl, _, _, rfl, rfl, .inr ⟨?_, ?_⟩, _, _, rfl, rfl, ?_⟩
        · omega
        · omega
        dsimp only
        have ea : (33 : Int) + 3 * (0 + (i : Nat)) = ((33 + 3 * i : Nat) : Int) := by omega
        rw [ea]
        -- one
        refine ⟨_, rfl, _, rfl, _, rfl, _, _, rfl, rfl, da, _, _, vn (dg d (33 + 3 * i + 1)), rfl, rfl, SqL.of hd5, at_of (j := 33 + 3 * i + 1) (by first | rfl | omega) (dg_at (by omega)), _, rfl, sa, _, rfl, .inl (SqL.of hs5), _, _, rfl, rfl, (by rw [List.length_map]; omega), sa, _, _, vc (rd signs (dg d (33 + 3 * i + 1))), rfl, rfl, SqL.of hs5, at_of (j := dg d (33 + 3 * i + 1) % signs.length) (by rw [List.length_map]; omega) (rd_at s1), ?_⟩
        -- ending
        refine ⟨_, rfl, _, rfl, _, rfl, _, rfl, _, rfl, _, _, rfl, rfl, da, _, _, vn (dg d (33 + 3 * i + 1)), rfl, rfl, SqL.of hd5, at_of (j := 33 + 3 * i + 1) (by first | rfl | omega) (dg_at (by omega)), _, _, rfl, rfl, ⟨by decide, by decide⟩, _, rfl, sa, _, rfl, .inl (SqL.of hs5), _, _, rfl, rfl, (by rw [List.length_map]; omega), sa, _, _, vc (rd signs (dg d (33 + 3 * i + 1) / 10)), rfl, rfl, SqL.of hs5, at_of (j := dg d (33 + 3 * i + 1) / 10 % signs.length) (by rw [List.length_map]; push_cast; rfl) (rd_at s1), _, _, rfl, rfl, (by rw [S_len, S_len, sl64]; simp), _, rfl, (by show 4 ≤ sizeLine; rw [sl64]; omega), fun q hq => ?_⟩
        rw [S_empty, S_app]
        have e6 := e5.newF hq (o := .lst [.str (S []), vc (rd signs (dg d (33 + 3 * i + 1))), .str (S ([rd signs (dg d (33 + 3 * i + 1))] ++ [rd signs (dg d (33 + 3 * i + 1) / 10)])), vc (rd signs (dg d (33 + 3 * i + 1)))])
        have e6' := (Ext.refl e5.fh).newF hq (o := .lst [.str (S []), vc (rd signs (dg d (33 + 3 * i + 1))), .str (S ([rd signs (dg d (33 + 3 * i + 1))] ++ [rd signs (dg d (33 + 3 * i + 1) / 10)])), vc (rd signs (dg d (33 + 3 * i + 1)))])
        have hLq : L ≠ q := fun e => by subst e; rw [hL5] at hq; cases hq
        have hd6 := e6'.hh _ _ hd5
        have hn6 := e6'.hh _ _ hn5
        have hL6 := e6'.hh _ _ hL5
        have f6 : (upd F5 q (HO.lst [.str (S []), vc (rd signs (dg d (33 + 3 * i + 1))), .str (S ([rd signs (dg d (33 + 3 * i + 1))] ++ [rd signs (dg d (33 + 3 * i + 1) / 10)])), vc (rd signs (dg d (33 + 3 * i + 1)))])) L = none := by rw [upd_ne hLq]; exact f5
        have hending : ([V.str (S []), vc (rd signs (dg d (33 + 3 * i + 1))), .str (S ([rd signs (dg d (33 + 3 * i + 1))] ++ [rd signs (dg d (33 + 3 * i + 1) / 10)])), vc (rd signs (dg d (33 + 3 * i + 1)))] : List V)[dg d (33 + 3 * i) % 4]? = some (.str (S (lawEnding d signs (33 + 3 * i)))) := by
          unfold lawEnding
          have h4 : dg d (33 + 3 * i) % 4 < 4 := Nat.mod_lt _ (by decide)
          generalize dg d (33 + 3 * i) % 4 = z at h4
          have hcase : z = 0 ∨ z = 1 ∨ z = 2 ∨ z = 3 := by omega
          rcases hcase with rfl | rfl | rfl | rfl <;> rfl
        have hqv : (upd H5 q (HO.lst [.str (S []), vc (rd signs (dg d (33 + 3 * i + 1))), .str (S ([rd signs (dg d (33 + 3 * i + 1))] ++ [rd signs (dg d (33 + 3 * i + 1) / 10)])), vc (rd signs (dg d (33 + 3 * i + 1)))])) q = some (HO.lst [.str (S []), vc (rd signs (dg d (33 + 3 * i + 1))), .str (S ([rd signs (dg d (33 + 3 * i + 1))] ++ [rd signs (dg d (33 + 3 * i + 1) / 10)])), vc (rd signs (dg d (33 + 3 * i + 1)))]) := upd_same
        have hlen2 : (lawEnding d signs (33 + 3 * i)).length ≤ 2 := (ending_ok n1 s1 (by rw [← hsigns]; exact lawSigns_sgn d) d (33 + 3 * i)).1
        generalize ([.str (S []), vc (rd signs (dg d (33 + 3 * i + 1))), .str (S ([rd signs (dg d (33 + 3 * i + 1))] ++ [rd signs (dg d (33 + 3 * i + 1) / 10)])), vc (rd signs (dg d (33 + 3 * i + 1)))] : List V) = els at *
        generalize upd F5 q (.lst els) = F6 at *
        generalize upd H5 q (.lst els) = H6 at *
        refine ⟨_, rfl, _, rfl, da, _, _, vn (dg d (33 + 3 * i)), rfl, rfl, SqL.of hd6, at_of (j := 33 + 3 * i) (by first | rfl | omega) (dg_at (by omega)), _, _, rfl, rfl, (by show (0 : Int) < 4; decide), q, _, _, .str (S (lawEnding d signs (33 + 3 * i))), rfl, rfl, SqL.of hqv, at_of (j := dg d (33 + 3 * i) % 4) (by omega) hending, ?_⟩
        -- if k == 0 or draws[at] % 4 < 3
        have stay : ∀ (x10 : Option V), (∃ (y5 y6 y7 y8 y9 y10 : Option V) (F' : Hp) (rvs : List V), [some (V.ref da), some (.ref na), some (.ref sa), some (.ref pa), some (.ref L), some (.int (0 + (i : Nat))), some (.int (33 + 3 * i : Nat)), x7, x8, some (vc (rd signs (dg d (33 + 3 * i + 1)))), some (.str (S (lawEnding d signs (33 + 3 * i))))] =
            [some (.ref da), some (.ref na), some (.ref sa), some (.ref pa), some (.ref L), y5, y6, y7, y8, y9, y10] ∧ Ext F H F' H6 ∧ Same F3 F' ∧ F' L = none ∧ H6 L = some (.lst rvs) ∧ Al rRule F' rvs rules) := fun _ => ⟨_, _, _, _, _, _, F6, rvs, rfl, e6, s5.trans e6'.ff, f6, hL6, al5.mono e6'.ff⟩
        have ins : tDrop (tBM K "list" (fun x vs H Q => ∃ l xs i y, x = V.ref l ∧ vs = [V.int i, y] ∧ H l = some (HO.lst xs) ∧ xs.length < sizeLine ∧ 0 ≤ i ∧ i < 2 ^ 63 ∧ Q V.non (upd H l (HO.lst (List.take i.toNat xs ++ [y] ++ List.drop i.toNat xs)))) (tVar 4)
            (tCons (tOp (L2.rI (fun x j => 0 < j) fun i j => V.int (i % j)) (tOp (rIxL K) (tVar 0) (tOp (rI0 fun i j => V.int (i + j)) (tVar 6) (tC (V.int 2)))) (tOp (rI0 fun i j => V.int (i + j)) (tCB (rLen K) (tCons (tVar 4) tNil)) (tC (V.int 1))))
              (tCons (tTup (tCons (tOp (rIxL K) (tVar 1) (tVar 5)) (tCons (tVar 10) tNil))) tNil)))
            { nx := fun σ H' => ∃ (x5 x6 x7 x8 x9 x10 : Option V) (F' : Hp) (rvs : List V), σ = [some (.ref da), some (.ref na), some (.ref sa), some (.ref pa), some (.ref L), x5, x6, x7, x8, x9, x10] ∧ Ext F H F' H' ∧ Same F3 F' ∧ F' L = none ∧ H' L = some (.lst rvs) ∧
                Al rRule F' rvs (insAt rules (dg d (33 + 3 * i + 2) % (rules.length + 1)) (dg names i, lawEnding d signs (33 + 3 * i))), rt := Q }
            [some (V.ref da), some (.ref na), some (.ref sa), some (.ref pa), some (.ref L), some (.int (0 + (i : Nat))), some (.int (33 + 3 * i : Nat)), x7, x8, some (vc (rd signs (dg d (33 + 3 * i + 1)))), some (.str (S (lawEnding d signs (33 + 3 * i))))] H6 := by
          refine ⟨_, rfl, .inl ⟨rfl, _, SqL.of hL6⟩, _, rfl, _, rfl, _, _, rfl, rfl, da, _, _, vn (dg d (33 + 3 * i + 2)), rfl, rfl, SqL.of hd6, at_of (j := 33 + 3 * i + 2) (by first | rfl | omega) (dg_at (by omega)), _, rfl, L, _, rfl, .inl (SqL.of hL6), _, _, rfl, rfl, _, _, rfl, rfl, by omega, _, rfl, _, rfl, na, _, _, vc (dg names i), rfl, rfl, SqL.of hn6, at_of (j := i) (by omega) (cs_at hi), _, rfl, (by show 2 ≤ sizeLine; rw [sl64]; omega), fun t ht => ?_⟩
          have hrv := al5.len
          have hLt : L ≠ t := fun e => by subst e; rw [hL6] at ht; cases ht
          have e7 := e6.newF ht (o := .tup [vc (dg names i), .str (S (lawEnding d signs (33 + 3 * i)))])
          have e7' := (Ext.refl e6.fh).newF ht (o := .tup [vc (dg names i), .str (S (lawEnding d signs (33 + 3 * i)))])
          have hlt := Nat.mod_lt (dg d (33 + 3 * i + 2)) (show rules.length + 1 > 0 by omega)
          have ez : ((dg d (33 + 3 * i + 2) : Nat) : Int) % (((rvs.length : Nat) : Int) + 1) = ((dg d (33 + 3 * i + 2) % (rules.length + 1) : Nat) : Int) := by rw [hrv]; push_cast; rfl
          refine ⟨L, rvs, _, _, rfl, rfl, by rw [upd_ne hLt]; exact hL6, by rw [hrv, sl64]; omega, by rw [ez]; omega, by rw [ez]; omega, _, _, _, _, _, _, _, _, rfl, e7.set hL0 (by rw [upd_ne hLt]; exact f6), s5.trans (e6'.ff.trans e7'.ff), by rw [upd_ne hLt]; exact f6, upd_same, ?_⟩
          rw [ez, Int.toNat_natCast]
          exact Al.ins _ (al5.mono (e6'.ff.trans e7'.ff)) ⟨t, _, _, rfl, upd_same, rfl, rfl⟩
        show ∃ _, _
        refine ⟨_, rfl, rfl, _, rfl, ?_⟩
        rw [dec_ii]
        have hyes : (i = 0 ∨ dg d (33 + 3 * i) % 4 < 3) → lawEnd d names signs rules i = insAt rules (dg d (33 + 3 * i + 2) % (rules.length + 1)) (dg names i, lawEnding d signs (33 + 3 * i)) := fun h => if_pos h
        by_cases h0 : i = 0
        · rw [decide_eq_true (by omega), hyes (.inl h0)]
          exact iteT (iteT ins)
        · rw [decide_eq_false (by omega)]
          refine iteF ⟨_, rfl, _, rfl, da, _, _, vn (dg d (33 + 3 * i)), rfl, rfl, SqL.of hd6, at_of (j := 33 + 3 * i) (by first | rfl | omega) (dg_at (by omega)), _, _, rfl, rfl, (by show (0 : Int) < 4; decide), _, _, rfl, rfl, _, rfl, ?_⟩
          by_cases h3 : dg d (33 + 3 * i) % 4 < 3
          · rw [decide_eq_true (show ((dg d (33 + 3 * i) : Nat) : Int) % 4 < 3 by omega), hyes (.inr h3)]
            exact iteT ins
          · rw [decide_eq_false (show ¬ ((dg d (33 + 3 * i) : Nat) : Int) % 4 < 3 by omega), show lawEnd d names signs rules i = rules from if_neg (by omega)]
            exact iteF (stay none)
      · rintro σ H6 ⟨x5, x6, x7, x8, x9, x10, F6, rvs, rfl, e6, s6, f6, hL6, al6⟩
        refine ⟨_, rfl, k _ _ H6 (e6.frz hL0 hL6 f6) ⟨L, rvs, rfl, upd_same, ?_⟩⟩
        unfold lawGrammar
        rw [hnames, hsigns]
        exact al6.mono (fun b o hb => by rw [upd_ne (ne_of_none hb f6)]; exact hb)
    · have hd4 := e4.fh _ _ hda3
      refine ⟨_, rfl, da, _, _, vn (dg d (6)), rfl, rfl, SqL.of hd4, at_of (j := 6) (by first | rfl | omega) (dg_at (by omega)), _, _, rfl, rfl, (by show (0 : Int) < 3; decide), rfl, _, rfl, ?_⟩
      rw [dec_ii]
      dsimp only
      by_cases h6 : dg d 6 % 3 = 0
      · rw [decide_eq_true (show ((dg d 6 : Nat) : Int) % 3 = 0 by omega)]
        refine iteT ⟨_, rfl, da, _, _, vn (dg d (7)), rfl, rfl, SqL.of hd4, at_of (j := 7) (by first | rfl | omega) (dg_at (by omega)), _, rfl, _, rfl, F3, dg d 7, _, _, names, signs, rfl, e4.fh, ⟨na, _, rfl, hna3, al_cs names⟩, ⟨sa, _, rfl, hsa3, al_cs signs⟩, n1, s1, fun v F5 H5 e5 hv => ?_⟩
        obtain ⟨ka, kvs, rfl, hka, kal⟩ := hv
        refine ⟨ka, kvs, rfl, .inl (SqL.of (e5.fh _ _ hka)), fun L hL => hD' _ _ ⟨L, none, none, none, none, F5, kvs, rfl, (e4.trans e5).newM hL, e5.ff, (e4.trans e5).free hL, (e4.trans e5).freeF hL, upd_same, ?_⟩⟩
        unfold lawRules0
        rw [if_pos h6]
        exact kal
      · rw [decide_eq_false (show ¬ ((dg d 6 : Nat) : Int) % 3 = 0 by omega)]
        refine iteF ⟨_, rfl, da, _, _, vn (dg d (6)), rfl, rfl, SqL.of hd4, at_of (j := 6) (by first | rfl | omega) (dg_at (by omega)), _, _, rfl, rfl, ⟨by decide, by decide⟩, _, _, rfl, rfl, (by show (0 : Int) < 6; decide), _, rfl, by omega, by omega, ?_⟩
        have en : (((dg d 6 : Nat) : Int) / 3 % 6).toNat = dg d 6 / 3 % 6 := by omega
        rw [en]
        refine for_range (lo := 0) (n := dg d 6 / 3 % 6) (fun i σ H' => ∃ (x5 x6 x7 x8 : Option V) (F' : Hp) (rvs : List V), σ = [some (.ref da), some (.ref na), some (.ref sa), some (.ref pa), some (.ref l), x5, x6, x7, x8, none, none] ∧ Ext F H F' H' ∧ Same F3 F' ∧ F' l = none ∧
          H' l = some (.lst rvs) ∧ Al rRule F' rvs ((List.range i).map fun k => (rd names (dg d (8 + 5 * k)), lawBody d (names ++ signs) (8 + 5 * k)))) ⟨none, none, none, none, F3, [], rfl, e4, Same.refl _, e3.freeF hl, upd_same, .nil⟩ ?_ ?_
        · rintro i σ H5 hi ⟨x5, x6, x7, x8, F5, rvs, rfl, e5, s5, f5, hl5, al5⟩
          have hd5 := e5.fh _ _ (s5 _ _ hda3)
          have hn5 := e5.fh _ _ (s5 _ _ hna3)
          have hp5 := e5.fh _ _ (s5 _ _ hpaF)
          refine ⟨_, rfl, _, _, rfl, rfl, .inr ⟨?_, ?_⟩, _, _, rfl, rfl, ?_⟩
          · omega
          · omega
          dsimp only
          have ea : (8 : Int) + 5 * (0 + (i : Nat)) = ((8 + 5 * i : Nat) : Int) := by omega
          rw [ea]
          refine ⟨_, rfl, _, rfl, _, _, rfl, rfl, da, _, _, vn (dg d (8 + 5 * i + 1)), rfl, rfl, SqL.of hd5, at_of (j := 8 + 5 * i + 1) (by first | rfl | omega) (dg_at (by omega)), _, _, rfl, rfl, (by show (0 : Int) < 4; decide), _, rfl, by omega, by omega, ?_⟩
          have en2 : (((dg d (8 + 5 * i + 1) : Nat) : Int) % 4).toNat = dg d (8 + 5 * i + 1) % 4 := by omega
          rw [en2, S_empty]
          refine for_range (lo := 0) (n := dg d (8 + 5 * i + 1) % 4) (fun j σ H' => ∃ x8 : Option V, σ = [some (.ref da), some (.ref na), some (.ref sa), some (.ref pa), some (.ref l), some (.int (0 + (i : Nat))), some (.int (8 + 5 * i : Nat)), some (.str (S ((List.range j).map fun j => rd (names ++ signs) (dg d (8 + 5 * i + 2 + j))))), x8, none, none] ∧ H' = H5) ⟨x8, rfl, rfl⟩ ?_ ?_
          · rintro j σ H6 hj ⟨x8, rfl, rfl⟩
            have hlen : 1 ≤ (names ++ signs).length := by rw [List.length_append]; omega
            refine ⟨_, rfl, _, rfl, _, rfl, _, rfl, _, _, rfl, rfl, _, rfl, _, _, rfl, rfl, da, _, _, vn (dg d (8 + 5 * i + 2 + j)), rfl, rfl, SqL.of hd5, at_of (j := 8 + 5 * i + 2 + j) (by first | rfl | omega) (dg_at (by omega)), _, rfl, pa, _, rfl, .inl (SqL.of hp5), _, _, rfl, rfl, (by rw [List.length_map]; omega), pa, _, _, vc (rd (names ++ signs) (dg d (8 + 5 * i + 2 + j))), rfl, rfl, SqL.of hp5, at_of (j := dg d (8 + 5 * i + 2 + j) % (names ++ signs).length) (by rw [List.length_map]; omega) (rd_at hlen), _, _, rfl, rfl, ?_, ?_⟩
            · rw [S_len, S_len, List.length_map, List.length_range, sl64]
              show j + 1 ≤ _
              omega
            · rw [S_app]
              refine ⟨some (.int (0 + (j : Nat))), ?_, rfl⟩
              rw [List.range_succ, List.map_append]
              rfl
          · rintro σ H6 ⟨x8, rfl, rfl⟩
            refine ⟨_, rfl, .inl ⟨rfl, _, SqL.of hl5⟩, _, rfl, _, rfl, _, rfl, da, _, _, vn (dg d (8 + 5 * i)), rfl, rfl, SqL.of hd5, at_of (j := 8 + 5 * i) (by first | rfl | omega) (dg_at (by omega)), _, rfl, na, _, rfl, .inl (SqL.of hn5), _, _, rfl, rfl, (by rw [List.length_map]; omega), na, _, _, vc (rd names (dg d (8 + 5 * i))), rfl, rfl, SqL.of hn5, at_of (j := dg d (8 + 5 * i) % names.length) (by rw [List.length_map]; omega) (rd_at n1), _, rfl, (by show 2 ≤ sizeLine; rw [sl64]; omega), fun t ht => ?_⟩
            have hlt : l ≠ t := fun e => by subst e; rw [hl5] at ht; cases ht
            have e6 := e5.newF ht (o := .tup [vc (rd names (dg d (8 + 5 * i))), .str (S (lawBody d (names ++ signs) (8 + 5 * i)))])
            have e6' := (Ext.refl e5.fh).newF ht (o := .tup [vc (rd names (dg d (8 + 5 * i))), .str (S (lawBody d (names ++ signs) (8 + 5 * i)))])
            refine ⟨l, rvs, _, rfl, rfl, by rw [upd_ne hlt]; exact hl5, by have := al5.len; rw [List.length_map, List.length_range] at this; rw [sl64]; omega, _, _, _, _, _, _, rfl, e6.set hl0 (by rw [upd_ne hlt]; exact f5), s5.trans e6'.ff, by rw [upd_ne hlt]; exact f5, upd_same, ?_⟩
            rw [List.range_succ, List.map_append]
            exact (al5.mono e6'.ff).snoc ⟨t, _, _, rfl, upd_same, rfl, rfl⟩
        · rintro σ H6 ⟨x5, x6, x7, x8, F6, rvs, rfl, e6, s6, f6, hl6, al6⟩
          refine hD' _ _ ⟨l, x5, x6, x7, x8, F6, rvs, rfl, e6, s6, hl0, f6, hl6, ?_⟩
          unfold lawRules0
          rw [if_neg h6]
          exact al6
end
end SF
namespace SF
open PySem PySem.Spec PyProof.Rows L2
def ruleD (r : Rule) : PyData := .tuple [.str (S [r.1]), .str (S r.2)]
def rulesD (rs : List Rule) : PyData := .list (rs.map ruleD)
theorem strOk_S {l : List Nat} (h : ∀ c ∈ l, c < 128) : PyData.strOk (S l) = true := by
  unfold PyData.strOk
  rw [Array.all_eq_true]
  intro i hi
  have h1 : (S l).cps[i] ∈ l := by
    have : (S l).cps[i] = l[i]'(by simpa using hi) := by simp
    rw [this]
    exact List.getElem_mem _
  have := h _ h1
  exact decide_eq_true (by omega)
theorem code_lt {c : Nat} (h : (sgn c || nam c) = true) : c < 128 := by
  rw [Bool.or_eq_true] at h
  rcases h with h | h
  · exact sgn_lt h
  · have := nam_iff.mp h; omega
theorem shaped_rules {rs : List Rule} (hr : RulesOk rs) : SeqAt.shaped (rulesD rs) = true := by
  unfold SeqAt.shaped
  rw [Bool.and_eq_true, decide_eq_true_eq]
  constructor
  · have key : ∀ rs : List Rule, RulesOk rs → PyData.canLayAll0 (rs.map ruleD) = true := by
      intro rs
      induction rs with
      | nil => intro _; rfl
      | cons r l ih =>
        intro hr
        rw [List.map_cons]
        have h0 := hr r List.mem_cons_self
        have e1 : PyData.strOk (S [r.1]) = true := strOk_S fun c hc => by
          simp at hc
          subst hc
          exact code_lt (by rw [h0.1, Bool.or_true])
        have e2 : PyData.strOk (S r.2) = true := strOk_S fun c hc => code_lt (h0.2.2 c hc)
        simp only [PyData.canLayAll0, PyData.canLay0, ruleD, e1, e2, ih fun x hx => hr x (List.mem_cons_of_mem _ hx), Bool.and_true]
    simp only [rulesD, PyData.canLay0, key rs hr]
  · have key : ∀ rs : List Rule, PyData.depthAll (rs.map ruleD) ≤ 1 := by
      intro rs
      induction rs with
      | nil => exact Nat.zero_le _
      | cons r l ih =>
        rw [List.map_cons]
        simp only [PyData.depthAll, PyData.depth, ruleD]
        omega
    have := key rs
    simp only [rulesD, PyData.depth]
    omega
section
variable {P : Program} {w : World} {K : PySem.W.Frag} {mg : Str → Option Value} {base : Heap} {a : Ad}
theorem dp_rules {F H : Hp} (s : Same F H) {l : Addr} {vs : List V} {rs : List Rule} (hl : SqL K H l vs) (al : Al rRule F vs rs) : Dp K H (.ref l) (rulesD rs) := by
  refine .lst hl ?_
  have key : ∀ {vs : List V} {rs : List Rule}, Al rRule F vs rs → DpAll K H vs (rs.map ruleD) := by
    intro vs rs h
    induction h with
    | nil => exact .nil
    | cons h t ih =>
      obtain ⟨p, u, w, rfl, hp, hu, hw⟩ := h
      rw [show u = _ from hu, show w = _ from hw] at hp
      exact .cons (.tup (SqT.of (s _ _ hp)) (.cons (.str _) (.cons (.str _) .nil))) ih
  exact key al
def sp_kept (G C : Addr) : Sp := fun vs H Q _ => ∃ (F : Hp) (gv : V) (ra : Addr) (rvs : List V) (g : Gram), vs = [gv, .ref ra, vc g.root] ∧ Same F H ∧ rGram G C F gv g ∧ H ra = some (.lst rvs) ∧ Al rRule F rvs g.rules ∧ 1 ≤ g.rules.length ∧ g.rules.length ≤ 16 ∧ RulesOk g.rules ∧ ∀ F' H', Ext F H F' H' → Q (.bl true) H'
theorem ok_kept (T : Txt K mg a) : FnOk P w K mg base CX0 3 a._law_kept a.d__law_kept ["_law_grammar_here", "_law_rules", "_law_base"] (sp_kept a.Grammar a.Table) := by
  have G_Grammar_rules := ok_rules (P := P) (w := w) (base := base) T
  refine T.f__law_kept.ok sc__law_kept (fun vs H Q E h => ?_) (fun cdv A outer s H vs Q E hr h => ?_)
  · obtain ⟨F, gv, ra, rvs, g, rfl, _⟩ := h; rfl
  · obtain ⟨F, gv, ra, rvs, g, rfl, sF, hg, hra, hal, h1, h16, hrok, k⟩ := h
    refine ⟨_, (pss_cons (ps_set (i := 3) sc__law_kept.nd rfl (Or.inl rfl) (pe_prop (pv 0) T.k_Grammar T.p_Grammar_rules G_Grammar_rules (hr.mono (by decide)) T.b_Grammar_rules .nil pass0 (by rfl)))
  (pss_cons (ps_if (PW.pt (pw_or (pt_not (pt_val (pe_callB (isiK (K := K)) (by rfl) T.z_isinstance (by decide +kernel) (pa_cons (pv 3) (pa_cons (pe_bltn (v := .ty "list") (u := .type "list") (by rfl) T.z_list (by decide +kernel) rfl) pa_nil))))) (pw_or (pt_cmpR (op_neDK (K := K) hr.units) (pv 3) (pv 1) (nomark _)) (pw_or (pt_not (pt_val (pe_callB (isiK (K := K)) (by rfl) T.z_isinstance (by decide +kernel) (pa_cons (pe_fldK (K := K) (pv 0)) (pa_cons (pe_bltn (v := .ty "str") (u := .type "str") (by rfl) T.z_str (by decide +kernel) rfl) pa_nil))))) (pw_or1 (pt_cmpR op_ne (pe_fldK (K := K) (pv 0)) (pv 2) (nomark _)))))))
    (pss_one (ps_ret pe_bl))
    pss_nil)
  (pss_cons (ps_expr (pe_bmK (K := K) PySem.F.plainAttrs_list PySem.F.slot_list_append PySem.F.type_list_append mt_append (pv 3) (pa_cons (pe_tup (pa_cons (pv 2) (pa_cons pe_str pa_nil))) pa_nil)))
  (pss_cons (ps_asg (pe_tup (pa_cons (pv 2) (pa_cons pe_str pa_nil))) (pg_sub (pv 3) pe_int set_list))
  (pss_one (ps_ret (pe_and (pe_cmpR (op_eqDK (K := K) hr.units) (pe_prop (pv 0) T.k_Grammar T.p_Grammar_rules G_Grammar_rules (hr.mono (by decide)) T.b_Grammar_rules .nil pass0 (by rfl)) (pv 1) (nomark _)) (pe_and (pe_cmpR op_eq (pe_conK (K := K) (pv 0)) pe_int (nomark _)) (pe_one (pe_cmpR op_eq (pe_cvalK (K := K) (pe_glob (v := .ref a.Grammar) (by rfl) T.m_Grammar rfl)) pe_int (nomark _))))))))))), ?_⟩
    have hg0 := hg
    obtain ⟨p, dx, u0, u2, u3, u4, u5, rfl, hp, _⟩ := hg0
    have hpH := sF _ _ hp
    refine ⟨_, rfl, p, dx, _, rfl, hpH, F, _, g, rfl, sF, hg, fun l rvs2 hl hal2 => ?_⟩
    have e1 : Ext F H F (upd H l (.lst rvs2)) := (Ext.refl sF).newM hl
    have hl1 : (upd H l (.lst rvs2)) l = some (.lst rvs2) := upd_same
    generalize upd H l (.lst rvs2) = H1 at e1 hl1 ⊢
    have hp1 := e1.fh _ _ hp
    have hra1 := e1.hh _ _ hra
    have eqr : PyData.eqv (rulesD g.rules) (rulesD g.rules) = true := SeqAt.eqv_refl _ (SeqAt.canLay_of_shaped (shaped_rules hrok))
    refine ⟨_, rfl, _, _, _, _, true, rfl, .ty "list", .base (.lst hl1), kit_ty (by decide +kernel), _, rfl, ?_⟩
    refine iteF ⟨_, rfl, _, rfl, rulesD g.rules, rulesD g.rules, dp_rules e1.fh (SqL.of hl1) hal2, dp_rules e1.fh (SqL.of hra1) hal, shaped_rules hrok, shaped_rules hrok, _, rfl, ?_⟩
    rw [eqr]
    refine iteF ⟨_, rfl, p, _, dx, _, _, rfl, hp1, T.k_Grammar, T.na_Grammar_root, (by repeat (first | exact look_eq | exact look_nil | rw [look_ne (by decide)])), _, _, _, _, true, rfl, .ty "str", .base (.str _), kit_ty (by decide +kernel), _, rfl, ?_⟩
    refine iteF ⟨_, rfl, p, _, dx, _, _, rfl, hp1, T.k_Grammar, T.na_Grammar_root, (by repeat (first | exact look_eq | exact look_nil | rw [look_ne (by decide)])), _, rfl, rfl, _, rfl, ?_⟩
    rw [decide_eq_true rfl]
    refine iteF ?_
    have hl2 := hal2.len
    -- told.append((base, 'x'))
    refine ⟨_, rfl, .inl ⟨rfl, _, SqL.of hl1⟩, _, rfl, (by show 2 ≤ sizeLine; rw [sl64]; omega), fun t ht => ?_⟩
    have hlt : l ≠ t := fun e => by subst e; rw [hl1] at ht; cases ht
    have fl : F l = none := sF.free hl
    refine ⟨l, rvs2, _, rfl, rfl, by rw [upd_ne hlt]; exact hl1, by rw [hl2, sl64]; omega, ?_⟩
    have e2 := (e1.newM ht (o := .tup [vc g.root, .str (Str.ofString "x")])).set hl fl (o := .lst (rvs2 ++ [.ref t]))
    have hl2' := upd_same (H := upd H1 t (.tup [vc g.root, .str (Str.ofString "x")])) (a := l) (o := .lst (rvs2 ++ [.ref t]))
    generalize upd (upd H1 t (.tup [vc g.root, .str (Str.ofString "x")])) l (.lst (rvs2 ++ [.ref t])) = H2 at e2 hl2' ⊢
    -- told[0] = (base, 'yy')
    refine ⟨_, rfl, (by show 2 ≤ sizeLine; rw [sl64]; omega), fun t2 ht2 => ?_⟩
    have hlt2 : l ≠ t2 := fun e => by subst e; rw [hl2'] at ht2; cases ht2
    refine ⟨_, rfl, l, rvs2 ++ [.ref t], 0, 0, rfl, rfl, by rw [upd_ne hlt2]; exact hl2', ?_, ?_⟩
    · unfold ixN
      rw [if_pos (by omega), if_pos (by rw [List.length_append]; simp only [List.length_cons, List.length_nil]; omega)]
      rfl
    have e3 := (e2.newM ht2 (o := .tup [vc g.root, .str (Str.ofString "yy")])).set hl fl (o := .lst ((rvs2 ++ [V.ref t]).set 0 (V.ref t2)))
    generalize upd (upd H2 t2 (.tup [vc g.root, .str (Str.ofString "yy")])) l (.lst ((rvs2 ++ [V.ref t]).set 0 (V.ref t2))) = H3 at e3 ⊢
    have hp3 := e3.fh _ _ hp
    have hra3 := e3.hh _ _ hra
    refine ⟨_, rfl, p, dx, _, rfl, hp3, F, _, g, rfl, e3.fh, hg, fun l4 rvs4 hl4 hal4 => ?_⟩
    have e4 := e3.newM hl4 (o := .lst rvs4)
    have hp4 := e4.fh _ _ hp
    obtain ⟨uc, hcon⟩ := T.con_Grammar_MOST_RULES
    obtain ⟨uv, hcv⟩ := T.cv_Grammar_MOST_RULES
    refine ⟨_, rfl, rulesD g.rules, rulesD g.rules, dp_rules e4.fh (SqL.of upd_same) hal4, dp_rules e4.fh (SqL.of (e4.hh _ _ hra)) hal, shaped_rules hrok, shaped_rules hrok, _, rfl, ?_⟩
    rw [eqr]
    refine iteT ⟨_, rfl, p, _, dx, _, _, uc, rfl, hp4, T.k_Grammar, hcon, (by repeat (first | exact look_eq | exact look_nil | rw [look_ne (by decide)])), rfl, _, rfl, ?_⟩
    rw [decide_eq_true rfl]
    refine iteT ⟨_, _, _, uv, rfl, T.cr_Grammar, hcv, rfl, ?_⟩
    rw [decide_eq_true rfl]
    exact k F _ e4
end
end SF
namespace SF
open PySem PySem.Spec PyProof.Rows L2
def sp_law (K : PySem.W.Frag) : Sp := fun vs H Q _ => ∃ (a : Addr) (ns : List Int), vs = [.ref a] ∧ SqL K H a (ns.map V.int) ∧ ns.length ≤ 63 ∧ ∀ H', Q (.bl true) H'
theorem Drawn.app {names : List Nat} {R R2 : List Rule} (h : Drawn names R) (h2 : ∀ r ∈ R2, r ∈ R) : Drawn names (R ++ R2) := ⟨fun r hr => by
  rcases List.mem_append.mp hr with z | z
  · exact h.ru r z
  · exact h.ru r (h2 r z), by
  obtain ⟨r, hr, e⟩ := h.en
  exact ⟨r, List.mem_append_left _ hr, e⟩⟩
theorem Drawn.rooted {names : List Nat} {R : List Rule} (h : Drawn names R) (hn : 1 ≤ names.length) (n : Nat) : Drawn names ((dg names 0, []) :: R.take n) := ⟨fun r hr => by
  rcases List.mem_cons.mp hr with z | z
  · subst z
    exact ⟨dg_mem hn, fun c hc => (by cases hc), Nat.zero_le _, fun _ => Nat.zero_le _⟩
  · exact h.ru r (List.mem_of_mem_take z), ⟨_, List.mem_cons_self, rfl, Nat.zero_le _, fun c hc => (by cases hc)⟩⟩
theorem last_at {α : Type} {l : List α} (h : l ≠ []) : l[l.length - 1]? = some (l.getLast h) := by
  rw [List.getLast_eq_getElem]
  exact List.getElem?_eq_getElem _
theorem cut15 (xs : List V) (n : Nat) : cutV xs none (some ((n : Nat) : Int)) = xs.take n := by
  unfold cutV
  rw [HT.sIx_none, HT.sIx_nat, List.drop_zero, Nat.sub_zero]
  rcases Nat.le_total n xs.length with h | h
  · rw [Nat.min_eq_left h]
  · rw [Nat.min_eq_right h, List.take_length, List.take_of_length_le h]
section
variable {P : Program} {w : World} {K : PySem.W.Frag} {mg : Str → Option Value} {base : Heap} {a : Ad}
theorem kw_Grammar (T : Txt K mg a) : KBn K a.d_Grammar___init__ ["self", "rules", "root"] 2 ["root"] (fun us ws => us ++ ws) (fun vs zs => vs ++ zs) := by
  obtain ⟨mv, h⟩ := T.f_Grammar___init__.kbinds0 (ps := ["self", "rules", "root"]) 2 ["root"] [] (fun us _ ws => us ++ ws) (by simp) (by simp) (fun r1 _ r3 => r1.append r3)
    (fun D doc pm an cdv ct us mv ws l1 l2 l3 => match us, mv, ws, l1, l2, l3 with | [_, _], [], [_], _, _, _ => rfl)
  exact h
theorem df_Grammar (T : Txt K mg a) : ∃ ds, Vals [V.non] ds ∧ Binds K a.d_Grammar___init__ ["self", "rules", "root"] ds :=
  T.f_Grammar___init__.binds0 (ps := ["self", "rules", "root"]) 2 (by simp) rfl (fun D doc pm an cdv ct us ks l1 l2 => match us, ks, l1, l2 with | [_, _], [_], _, _ => ⟨_, _, _, _, _, _, rfl, rfl, rfl⟩)
theorem ok_law (T : Txt K mg a) : FnOk P w K mg base CX0 6 a.law a.d_law ["_law_script"] (sp_law K) := by
  have G__law_cell := ok_cell (P := P) (w := w) (base := base) T
  have G__law_draws := ok_draws (P := P) (w := w) (base := base) T
  have G__law_names := ok_names (P := P) (w := w) (base := base) T
  have G__law_grammar := ok_grammar (P := P) (w := w) (base := base) T
  have G__law_kept := ok_kept (P := P) (w := w) (base := base) T
  have G_Grammar___init__ := ok_Grammar (P := P) (w := w) (base := base) T
  have hbK_Grammar := kw_Grammar T
  obtain ⟨dsG, hdD_Grammar, hbD_Grammar⟩ := df_Grammar T
  refine T.f_law.ok sc_law (fun vs H Q E h => ?_) (fun cdv A outer s H vs Q E hr h => ?_)
  · obtain ⟨q, ns, rfl, _⟩ := h; rfl
  · obtain ⟨q, ns, rfl, hS, h63, hQ⟩ := h
    refine ⟨_, (pss_cons (ps_set (i := 1) sc_law.nd rfl (Or.inl rfl) (pe_call G__law_draws (hr.mono (by decide)) (by rfl) T.m__law_draws T.f__law_draws.kp T.b__law_draws .nil pass0 (pa_cons (pe_call G__law_cell (hr.mono (by decide)) (by rfl) T.m__law_cell T.f__law_cell.kp T.b__law_cell .nil pass0 (pa_cons (pv 0) (pa_cons pe_int pa_nil))) (pa_cons pe_int pa_nil))))
  (pss_cons (ps_set (i := 2) sc_law.nd rfl (Or.inl rfl) (pe_ix (ix_listK (K := K)) (pe_call G__law_names (hr.mono (by decide)) (by rfl) T.m__law_names T.f__law_names.kp T.b__law_names .nil pass0 (pa_cons (pv 1) pa_nil)) pe_int (fun _ _ => rfl)))
  (pss_cons (ps_set (i := 3) sc_law.nd rfl (Or.inr rfl) (pe_call G__law_grammar (hr.mono (by decide)) (by rfl) T.m__law_grammar T.f__law_grammar.kp T.b__law_grammar .nil pass0 (pa_cons (pv 1) pa_nil)))
  (pss_cons (ps_if (pt_cmpR op_eq (pe_op op_mod (pe_callTy call_int1 (by rfl) T.z_int (by decide +kernel) (pa_cons (pe_call G__law_cell (hr.mono (by decide)) (by rfl) T.m__law_cell T.f__law_cell.kp T.b__law_cell .nil pass0 (pa_cons (pv 0) (pa_cons pe_int pa_nil))) pa_nil)) pe_int) pe_int (nomark _))
    (pss_one (ps_set (i := 3) sc_law.nd rfl (Or.inr rfl) (pe_op op_cat (pv 3) (pe_lc (own := [("_law_k", 9)]) (g := gName 9) (tt := tYes) (by rfl) sc_law.nd (pi_range1 (by rfl) T.z_range (pa_cons (pe_op op_sub pe_int (pe_callB (call_lenK (K := K)) (by rfl) T.z_len PySem.boot_len (pa_cons (pv 3) pa_nil))) pa_nil)) (blkOk_by (own := [("_law_k", 9)]) (N := n_law) (sc := (defScope s_law)) (by decide +kernel)) (fun _ _ _ _ _ => (pg_name (i := 9) sc_law.nd rfl (Or.inl rfl))) (fun _ _ _ _ _ => pts_nil) (fun _ _ _ _ _ => (pe_ix (ix_listK (K := K)) (pv 3) (pe_op op_mod (pv 9) (pe_callB (call_lenK (K := K)) (by rfl) T.z_len PySem.boot_len (pa_cons (pv 3) pa_nil))) (fun _ _ => rfl)))))))
    pss_nil)
  (pss_cons (ps_set (i := 4) sc_law.nd rfl (Or.inl rfl) (pe_callTy (call_listK (K := K)) (by rfl) T.z_list (by decide +kernel) (pa_cons (pv 3) pa_nil)))
  (pss_cons (ps_set (i := 5) sc_law.nd rfl (Or.inl rfl) (pe_makeK T.k_mk_Grammar G_Grammar___init__ (hr.mono (by decide)) (by rfl) T.m_Grammar hbK_Grammar pass0 (pa_cons (pv 4) pa_nil) (pk_cons (pv 2) pk_nil)))
  (pss_cons (ps_expr (pe_bmK (K := K) PySem.F.plainAttrs_list PySem.F.slot_list_insert PySem.F.type_list_insert mt_insert (pv 4) (pa_cons pe_int (pa_cons (pe_tup (pa_cons (pv 2) (pa_cons pe_str pa_nil))) pa_nil))))
  (pss_cons (ps_expr (pe_bm0K (K := K) PySem.F.plainAttrs_list PySem.F.slot_list_pop PySem.F.type_list_pop mt_pop (pv 4)))
  (pss_cons (ps_if (pt_not (pt_val (pe_call G__law_kept (hr.mono (by decide)) (by rfl) T.m__law_kept T.f__law_kept.kp T.b__law_kept .nil pass0 (pa_cons (pv 5) (pa_cons (pv 3) (pa_cons (pv 2) pa_nil))))))
    (pss_one (ps_ret pe_bl))
    pss_nil)
  (pss_cons (ps_set (i := 6) sc_law.nd rfl (Or.inl rfl) (pe_op op_cat (pe_lst (pa_cons (pe_tup (pa_cons (pv 2) (pa_cons pe_str pa_nil))) pa_nil)) (pe_slice (sl_listK (K := K)) (pv 3) po_none (po_some pe_int))))
  (pss_cons (ps_set (i := 4) sc_law.nd rfl (Or.inl rfl) (pe_callTy (call_listK (K := K)) (by rfl) T.z_list (by decide +kernel) (pa_cons (pv 6) pa_nil)))
  (pss_cons (ps_set (i := 7) sc_law.nd rfl (Or.inl rfl) (pe_make T.k_mk_Grammar G_Grammar___init__ (hr.mono (by decide)) (by rfl) T.m_Grammar hbD_Grammar hdD_Grammar pass0 (pa_cons (pv 4) pa_nil)))
  (pss_cons (ps_set (i := 8) sc_law.nd rfl (Or.inl rfl) (pe_makeK T.k_mk_Grammar G_Grammar___init__ (hr.mono (by decide)) (by rfl) T.m_Grammar hbK_Grammar pass0 (pa_cons (pv 6) pa_nil) (pk_cons pe_non pk_nil)))
  (pss_cons (ps_expr (pe_bm0K (K := K) PySem.F.plainAttrs_list PySem.F.slot_list_pop PySem.F.type_list_pop mt_pop (pv 4)))
  (pss_cons (ps_if (PW.pt (pw_or (pt_not (pt_val (pe_call G__law_kept (hr.mono (by decide)) (by rfl) T.m__law_kept T.f__law_kept.kp T.b__law_kept .nil pass0 (pa_cons (pv 7) (pa_cons (pv 6) (pa_cons (pv 2) pa_nil)))))) (pw_or1 (pt_not (pt_val (pe_call G__law_kept (hr.mono (by decide)) (by rfl) T.m__law_kept T.f__law_kept.kp T.b__law_kept .nil pass0 (pa_cons (pv 8) (pa_cons (pv 6) (pa_cons (pv 2) pa_nil)))))))))
    (pss_one (ps_ret pe_bl))
    pss_nil)
  (pss_one (ps_ret (pe_call G__law_kept (hr.mono (by decide)) (by rfl) T.m__law_kept T.f__law_kept.kp T.b__law_kept .nil pass0 (pa_cons (pv 5) (pa_cons (pv 3) (pa_cons (pv 2) pa_nil))))))))))))))))))))), ?_⟩
    have sF : Same (fun _ => none) H := fun b o h => by cases h
    refine ⟨_, rfl, q, ns, 0, rfl, hS, (fun _ => none), _, 42, rfl, by omega, sF, fun v F1 H1 e1 hv => ?_⟩
    obtain ⟨da, dvs, rfl, hda, dal⟩ := hv
    have hdl := draws_len (ns[0]?.getD 0) 42
    have hd100 := draws_lt (ns[0]?.getD 0) 42
    generalize draws (ns[0]?.getD 0) 42 = d at *
    refine ⟨_, rfl, F1, _, d, rfl, e1.fh, ⟨da, dvs, rfl, hda, dal⟩, by omega, hd100, fun v F2 H2 e2 hv => ?_⟩
    obtain ⟨na, nvs, rfl, hna, nal⟩ := hv
    obtain rfl : nvs = (lawNames d).map vc := nal.cs
    obtain ⟨n1, n3⟩ := lawNames_len d
    refine ⟨na, _, 0, vc (dg (lawNames d) 0), rfl, rfl, SqL.of (e2.fh _ _ hna), at_of (j := 0) rfl (cs_at (by omega)), ?_⟩
    refine ⟨_, rfl, F2, _, d, rfl, e2.fh, ⟨da, dvs, rfl, e2.ff _ _ hda, dal.mono e2.ff⟩, by omega, hd100, fun v F3 H3 e3 hv => ?_⟩
    obtain ⟨ra, rvs, rfl, hra, ral⟩ := hv
    obtain ⟨hdr, hlen⟩ := lawGrammar_ok d
    have hnn := lawNames_nam d
    generalize lawNames d = names at *
    generalize lawGrammar d = R at *
    have e123 := (e1.trans e2).trans e3
    have hR1 : 1 ≤ R.length := by obtain ⟨r, hr, _⟩ := hdr.en; exact List.length_pos_of_mem hr
    refine gName_in ?_
    dsimp only
    refine seq_with (t := tIfS _ _ _) (fun σ H' => ∃ (ra : Addr) (R : List Rule) (rvs : List V) (F' : Hp), σ = [some (.ref q), some (.ref da), some (vc (dg names 0)), some (.ref ra), none, none, none, none, none, none] ∧ Ext (fun _ => none) H F' H' ∧ F' ra = some (.lst rvs) ∧ Al rRule F' rvs R ∧ Drawn names R ∧ R.length ≤ 16) (fun σ H' hst => ?_) (fun D' hD' => ?_)
    · obtain ⟨ra, R, rvs, F4, rfl, e4, hra4, ral4, hdr4, hlen4⟩ := hst
      have hR1 : 1 ≤ R.length := by obtain ⟨r, hr, _⟩ := hdr4.en; exact List.length_pos_of_mem hr
      have hok := hdr4.ok hnn n3 hlen4
      have hrok := hdr4.rok hnn
      -- passed = list(rules)
      refine ⟨_, rfl, ra, rvs, rfl, .inl (SqL.of (e4.fh _ _ hra4)), fun pa hpa => ?_⟩
      have e5 := e4.newM hpa (o := .lst rvs)
      have hpa5 := upd_same (H := H') (a := pa) (o := .lst rvs)
      have hpa0 : H pa = none := e4.free hpa
      have fpa4 : F4 pa = none := e4.freeF hpa
      generalize upd H' pa (.lst rvs) = H5 at e5 hpa5 ⊢
      -- grammar = Grammar(passed, root=base)
      refine ⟨_, rfl, _, rfl, rfl, rfl, fun x xd hx hxd hne => ?_⟩
      have e6 := e5.newM hxd (o := .own x)
      refine ⟨F4, upd H5 xd (.own x), x, xd, pa, _, rvs, ⟨R, dg names 0⟩, rfl, by rw [upd_ne (fun e => hne e.symm)]; exact hx, rfl, e6.fh, by rw [upd_ne (ne_of_none hpa5 hxd)]; exact hpa5, ral4, .inr rfl, hok, fun F7 H7 e7 hg => ⟨rfl, ?_⟩⟩
      have e57 : Ext F4 H5 F7 H7 := ((Ext.refl e5.fh).newM hxd (o := .own x)).trans e7
      have e7' := e5.trans e57
      have hpa7 := e57.hh _ _ hpa5
      have fpa7 : F7 pa = none := e57.nf pa (by rw [hpa5]; simp) fpa4
      have hra7 := e57.ff _ _ hra4
      have ral7 := ral4.mono e57.ff
      clear e57 e7 e6 e5 hx hxd hpa5
      -- passed.insert(0, (base, 'abc'))
      refine ⟨_, rfl, .inl ⟨rfl, _, SqL.of hpa7⟩, _, rfl, (by show 2 ≤ sizeLine; rw [sl64]; omega), fun t ht => ?_⟩
      have hpt : pa ≠ t := fun e => by subst e; rw [hpa7] at ht; cases ht
      have hrl := ral7.len
      refine ⟨pa, rvs, 0, _, rfl, rfl, by rw [upd_ne hpt]; exact hpa7, by rw [hrl, sl64]; omega, by omega, by decide, ?_⟩
      have e8 := (e7'.newM ht (o := .tup [vc (dg names 0), .str (Str.ofString "abc")])).set hpa0 fpa7 (o := .lst (rvs.take (0 : Int).toNat ++ [V.ref t] ++ rvs.drop (0 : Int).toNat))
      have hpa8 := upd_same (H := upd H7 t (.tup [vc (dg names 0), .str (Str.ofString "abc")])) (a := pa) (o := .lst (rvs.take (0 : Int).toNat ++ [V.ref t] ++ rvs.drop (0 : Int).toNat))
      generalize upd (upd H7 t (.tup [vc (dg names 0), .str (Str.ofString "abc")])) pa (.lst (rvs.take (0 : Int).toNat ++ [V.ref t] ++ rvs.drop (0 : Int).toNat)) = H8 at e8 hpa8 ⊢
      -- passed.pop()
      have hne8 : (rvs.take (0 : Int).toNat ++ [V.ref t] ++ rvs.drop (0 : Int).toNat) ≠ [] := by simp
      refine ⟨_, rfl, .inl ⟨rfl, _, SqL.of hpa8⟩, pa, _, (rvs.take (0 : Int).toNat ++ [V.ref t] ++ rvs.drop (0 : Int).toNat).getLast hne8, rfl, rfl, hpa8, last_at hne8, ?_⟩
      have e9 := e8.set hpa0 fpa7 (o := .lst (rvs.take (0 : Int).toNat ++ [V.ref t] ++ rvs.drop (0 : Int).toNat).dropLast)
      generalize upd H8 pa (.lst (rvs.take (0 : Int).toNat ++ [V.ref t] ++ rvs.drop (0 : Int).toNat).dropLast) = H9 at e9 ⊢
      clear e8 e7' hpa7 ht hpa8
      -- if not _law_kept(grammar, rules, base)
      refine ⟨_, rfl, _, rfl, _, rfl, F7, _, ra, rvs, ⟨R, dg names 0⟩, rfl, e9.fh, hg, e9.fh _ _ hra7, ral7, hR1, hlen4, hrok, fun F10 H10 e10 => ⟨_, rfl, iteF ?_⟩⟩
      have e10' := e9.trans e10
      -- rooted = [(base, '')] + rules[:15]
      have hra10 := e10.ff _ _ hra7
      have ral10 := ral7.mono e10.ff
      have hg10 := Mono.mono (r := rGram a.Grammar a.Table) e10.ff hg
      have fpa10 : pa ≠ ra := fun e => by subst e; rw [hra7] at fpa7; cases fpa7
      clear e10 e9 hra7 hg
      refine ⟨_, rfl, (by show 2 ≤ sizeLine; rw [sl64]; omega), fun t2 ht2 => ⟨(by show 1 ≤ sizeLine; rw [sl64]; omega), fun l2 hl2 => ?_⟩⟩
      rw [S_empty] at hl2 ⊢
      have e11 := (e10'.newF ht2 (o := .tup [vc (dg names 0), .str (S [])])).newF hl2 (o := .lst [.ref t2])
      have e11' := ((Ext.refl e10'.fh).newF ht2 (o := .tup [vc (dg names 0), .str (S [])])).newF hl2 (o := .lst [.ref t2])
      have ht2F : (upd (upd F10 t2 (.tup [vc (dg names 0), .str (S [])])) l2 (.lst [V.ref t2])) t2 = some (.tup [vc (dg names 0), .str (S [])]) := by
        have : t2 ≠ l2 := fun e => by subst e; rw [upd_same] at hl2; cases hl2
        rw [upd_ne this, upd_same]
      have hl2F := upd_same (H := upd F10 t2 (.tup [vc (dg names 0), .str (S [])])) (a := l2) (o := .lst [V.ref t2])
      have hra11 := e11'.ff _ _ hra10
      have ral11 := ral10.mono e11'.ff
      have hg11 := Mono.mono (r := rGram a.Grammar a.Table) e11'.ff hg10
      generalize upd (upd F10 t2 (.tup [vc (dg names 0), .str (S [])])) l2 (.lst [V.ref t2]) = F11 at *
      generalize upd (upd H10 t2 (.tup [vc (dg names 0), .str (S [])])) l2 (.lst [V.ref t2]) = H11 at *
      refine ⟨_, rfl, _, rfl, ra, rvs, rfl, SqL.of (e11.fh _ _ hra11), fun c hc => ?_⟩
      rw [show (cutV rvs none (some 15)) = rvs.take 15 from cut15 rvs 15] at *
      have e12 := e11.newF hc (o := .lst (rvs.take 15))
      have e12' := (Ext.refl e11.fh).newF hc (o := .lst (rvs.take 15))
      refine ⟨l2, c, [.ref t2], rvs.take 15, rfl, rfl, e12.fh _ _ (e12'.ff _ _ hl2F), upd_same, by rw [List.length_take, sl64]; simp only [List.length_cons, List.length_nil]; omega, fun rr hrr => ?_⟩
      have e13 := e12.newF hrr (o := .lst ([.ref t2] ++ rvs.take 15))
      have e13' := e12'.newF hrr (o := .lst ([.ref t2] ++ rvs.take 15))
      have hrr13 := upd_same (H := upd F11 c (.lst (rvs.take 15))) (a := rr) (o := .lst ([.ref t2] ++ rvs.take 15))
      have hra13 := e13'.ff _ _ hra11
      have ral13 := ral11.mono e13'.ff
      have hg13 := Mono.mono (r := rGram a.Grammar a.Table) e13'.ff hg11
      have rrl : Al rRule _ ([V.ref t2] ++ rvs.take 15) ((dg names 0, []) :: R.take 15) := Al.app (.cons ⟨t2, _, _, rfl, e13'.ff _ _ ht2F, rfl, rfl⟩ .nil) (ral13.take 15)
      generalize upd (upd F11 c (.lst (rvs.take 15))) rr (.lst ([.ref t2] ++ rvs.take 15)) = F13 at *
      generalize upd (upd H11 c (.lst (rvs.take 15))) rr (.lst ([.ref t2] ++ rvs.take 15)) = H13 at *
      clear e13' e12' e12 e11' e11 hra11 ral11 hg11 ht2F hl2F hc hrr hl2 ht2 hra10 ral10 hg10
      generalize hr2v : ([V.ref t2] ++ rvs.take 15) = r2v at *
      have hdr2 := hdr4.rooted n1 15
      have hlen2 : ((dg names 0, []) :: R.take 15 : List Rule).length ≤ 16 := by rw [List.length_cons, List.length_take]; omega
      have hhead : ((dg names 0, []) :: R.take 15 : List Rule)[0]?.map (·.1) = some (dg names 0) := rfl
      generalize ((dg names 0, []) :: R.take 15 : List Rule) = R2 at *
      have hR21 : 1 ≤ R2.length := by obtain ⟨r, hr, _⟩ := hdr2.en; exact List.length_pos_of_mem hr
      have hok2 := hdr2.ok hnn n3 hlen2
      have hrok2 := hdr2.rok hnn
      -- passed = list(rooted)
      refine ⟨_, rfl, rr, r2v, rfl, .inl (SqL.of (e13.fh _ _ hrr13)), fun pb hpb => ?_⟩
      have e14 := e13.newM hpb (o := .lst r2v)
      have hpb14 := upd_same (H := H13) (a := pb) (o := .lst r2v)
      have hpb0 : H pb = none := e13.free hpb
      have fpb : F13 pb = none := e13.freeF hpb
      generalize upd H13 pb (.lst r2v) = H14 at e14 hpb14 ⊢
      -- first = Grammar(passed)
      refine ⟨_, rfl, fun y yd hy hyd hne2 => ?_⟩
      have e15 := e14.newM hyd (o := .own y)
      refine ⟨F13, upd H14 yd (.own y), y, yd, pb, _, r2v, ⟨R2, dg names 0⟩, rfl, by rw [upd_ne (fun e => hne2 e.symm)]; exact hy, rfl, e15.fh, by rw [upd_ne (ne_of_none hpb14 hyd)]; exact hpb14, rrl, .inl ⟨rfl, hhead⟩, hok2, fun F16 H16 e16 hg1 => ⟨rfl, ?_⟩⟩
      have e146 : Ext F13 H14 F16 H16 := ((Ext.refl e14.fh).newM hyd (o := .own y)).trans e16
      have e16' := e14.trans e146
      have hpb16 := e146.hh _ _ hpb14
      have fpb16 : F16 pb = none := e146.nf pb (by rw [hpb14]; simp) fpb
      have hra16 := e146.ff _ _ hra13
      have ral16 := ral13.mono e146.ff
      have hg16 := Mono.mono (r := rGram a.Grammar a.Table) e146.ff hg13
      have hrr16 := e146.ff _ _ hrr13
      have rrl16 := rrl.mono e146.ff
      clear e146 e16 e15 e14 e13 hra13 ral13 hg13 hrr13 rrl hpb14 hpb hy hyd
      -- second = Grammar(rooted, root=None)
      refine ⟨_, rfl, rfl, rfl, fun z zd hz hzd hne3 => ?_⟩
      have e17 := e16'.newM hzd (o := .own z)
      refine ⟨F16, upd H16 zd (.own z), z, zd, rr, _, r2v, ⟨R2, dg names 0⟩, rfl, by rw [upd_ne (fun e => hne3 e.symm)]; exact hz, rfl, e17.fh, e17.fh _ _ hrr16, rrl16, .inl ⟨rfl, hhead⟩, hok2, fun F18 H18 e18 hg2 => ⟨rfl, ?_⟩⟩
      have e168 : Ext F16 H16 F18 H18 := ((Ext.refl e16'.fh).newM hzd (o := .own z)).trans e18
      have e18' := e16'.trans e168
      have hpb18 := e168.hh _ _ hpb16
      have fpb18 : F18 pb = none := e168.nf pb (by rw [hpb16]; simp) fpb16
      have hra18 := e168.ff _ _ hra16
      have ral18 := ral16.mono e168.ff
      have hg18 := Mono.mono (r := rGram a.Grammar a.Table) e168.ff hg16
      have hg118 := Mono.mono (r := rGram a.Grammar a.Table) e168.ff hg1
      have hrr18 := e168.ff _ _ hrr16
      have rrl18 := rrl16.mono e168.ff
      clear e168 e18 e17 e16' hra16 ral16 hg16 hg1 hrr16 rrl16 hpb16 hz hzd
      -- passed.pop()
      have hne18 : r2v ≠ [] := by rw [← hr2v]; simp
      refine ⟨_, rfl, .inl ⟨rfl, _, SqL.of hpb18⟩, pb, r2v, r2v.getLast hne18, rfl, rfl, hpb18, last_at hne18, ?_⟩
      have e19 := e18'.set hpb0 fpb18 (o := .lst r2v.dropLast)
      generalize upd H18 pb (.lst r2v.dropLast) = H19 at e19 ⊢
      -- the last three
      refine ⟨_, rfl, _, rfl, _, rfl, F18, _, rr, r2v, ⟨R2, dg names 0⟩, rfl, e19.fh, hg118, e19.fh _ _ hrr18, rrl18, hR21, hlen2, hrok2, fun F20 H20 e20 => ⟨_, rfl, iteF ?_⟩⟩
      have e20' := e19.trans e20
      refine ⟨_, rfl, _, rfl, _, rfl, F20, _, rr, r2v, ⟨R2, dg names 0⟩, rfl, e20'.fh, Mono.mono (r := rGram a.Grammar a.Table) e20.ff hg2, e20'.fh _ _ (e20.ff _ _ hrr18), rrl18.mono e20.ff, hR21, hlen2, hrok2, fun F21 H21 e21 => ⟨_, rfl, iteF ?_⟩⟩
      have e21' := e20'.trans e21
      have sm := e20.ff.trans e21.ff
      exact ⟨_, rfl, _, rfl, _, rfl, F21, _, ra, rvs, ⟨R, dg names 0⟩, rfl, e21'.fh, Mono.mono (r := rGram a.Grammar a.Table) sm hg18, e21'.fh _ _ (sm _ _ hra18), ral18.mono sm, hR1, hlen4, hrok, fun F22 H22 e22 => hQ _⟩
    · have hS3 := Same.seq e123.hh hS
      refine ⟨_, rfl, q, ns, 1, rfl, hS3, .inl ⟨_, rfl, _, _, rfl, rfl, (by show (0 : Int) < 3; decide), rfl, _, rfl, ?_⟩⟩
      rw [dec_ii]
      by_cases h3 : (ns[1]?.getD 0) % 3 = 0
      · rw [decide_eq_true h3]
        have hraH := e123.fh _ _ hra
        have hrl := ral.len
        refine iteT ⟨_, rfl, _, rfl, ra, _, rfl, .inl (SqL.of hraH), _, _, rfl, rfl, _, rfl, by rw [hrl]; omega, by rw [hrl]; omega, fun D hD => ?_⟩
        rw [show ((16 : Int) - ((rvs.length : Nat) : Int)).toNat = 16 - R.length by rw [hrl]; omega]
        refine lc_rng (r := rRule) (fun k => (R[k % R.length]?).getD (0, [])) hD e123.fh (by rw [sl64]; omega) (fun i F4 H4 hi e4 Qy qq => ?_) (fun ws F5 H5 e5 fD al => ?_)
        · have hlt : i % R.length < R.length := Nat.mod_lt _ hR1
          obtain ⟨v, hv, hr⟩ := ral.get' (List.getElem?_eq_getElem hlt)
          have hra4 := e4.sm _ _ hra
          refine ⟨rfl, _, rfl, _, rfl, _, rfl, ra, _, rfl, .inl (SqL.of hra4), _, _, rfl, rfl, (by rw [hrl]; omega), ra, _, _, v, rfl, rfl, SqL.of hra4, at_of (j := i % R.length) (by rw [hrl, Int.zero_add]; push_cast; rfl) hv, ?_⟩
          refine qq _ F4 H4 (Ext.refl e4.fh) ?_
          rw [List.getElem?_eq_getElem hlt]
          exact Mono.mono e4.ff hr
        · have hra5 := e5.ff _ _ hra
          have hlw := al.len
          rw [List.length_map, List.length_range] at hlw
          refine ⟨ra, D, _, _, rfl, rfl, e5.fh _ _ hra5, e5.fh _ _ fD, by rw [hrl, hlw, sl64]; omega, fun p hp => hD' _ _ ⟨p, R ++ (List.range (16 - R.length)).map fun k => (R[k % R.length]?).getD (0, []), rvs ++ ws, _, rfl, (e123.trans e5).newF hp, upd_same, ?_, ?_, ?_⟩⟩
          · exact ((ral.mono e5.ff).app al).mono (((Ext.refl e5.fh).newF hp).ff)
          · refine hdr.app fun r hr => ?_
            obtain ⟨k, _, rfl⟩ := List.mem_map.mp hr
            have hlt : k % R.length < R.length := Nat.mod_lt _ hR1
            rw [List.getElem?_eq_getElem hlt]
            exact List.getElem_mem hlt
          · rw [List.length_append, List.length_map, List.length_range]
            omega
      · rw [decide_eq_false h3]
        exact iteF (hD' _ _ ⟨ra, R, rvs, F3, rfl, e123, hra, ral, hdr, by omega⟩)
end
end SF
namespace SF
open PySem PySem.Spec PyProof.Rows L2
section
def dA_is_sign : He5.DefA := ⟨fun K => (He.ga K "is_sign"), "is_sign", "is_sign", defArgs s_is_sign, defBody s_is_sign, defScope s_is_sign, [], []⟩
def dA_is_name : He5.DefA := ⟨fun K => (He.ga K "is_name"), "is_name", "is_name", defArgs s_is_name, defBody s_is_name, defScope s_is_name, [], []⟩
def dA_is_body : He5.DefA := ⟨fun K => (He.ga K "is_body"), "is_body", "is_body", defArgs s_is_body, defBody s_is_body, defScope s_is_body, [], []⟩
def dA_names_in : He5.DefA := ⟨fun K => (He.ga K "names_in"), "names_in", "names_in", defArgs s_names_in, defBody s_names_in, defScope s_names_in, [], []⟩
def dA_least_lengths : He5.DefA := ⟨fun K => (He.ga K "least_lengths"), "least_lengths", "least_lengths", defArgs s_least_lengths, defBody s_least_lengths, defScope s_least_lengths, [], []⟩
def dA_useful_numbers : He5.DefA := ⟨fun K => (He.ga K "useful_numbers"), "useful_numbers", "useful_numbers", defArgs s_useful_numbers, defBody s_useful_numbers, defScope s_useful_numbers, [], []⟩
def dA_least_derivations : He5.DefA := ⟨fun K => (He.ga K "least_derivations"), "least_derivations", "least_derivations", defArgs s_least_derivations, defBody s_least_derivations, defScope s_least_derivations, [], []⟩
def dA_Table___init__ : He5.DefA := ⟨fun K => (He.ma K (He.ga K "Table") "__init__"), "__init__", "Table.__init__", defArgs s_Table___init__, defBody s_Table___init__, defScope s_Table___init__, [], []⟩
def dA_Grammar___init__ : He5.DefA := ⟨fun K => (He.ma K (He.ga K "Grammar") "__init__"), "__init__", "Grammar.__init__", defArgs s_Grammar___init__, defBody s_Grammar___init__, defScope s_Grammar___init__, [], [("root", .non)]⟩
def dA_Grammar_rules : He5.DefA := ⟨fun K => (He5.wf K (He.ga K "Grammar") "property" "rules"), "rules", "Grammar.rules", defArgs s_Grammar_rules, defBody s_Grammar_rules, defScope s_Grammar_rules, [], []⟩
def dA__law_cell : He5.DefA := ⟨fun K => (He.ga K "_law_cell"), "_law_cell", "_law_cell", defArgs s__law_cell, defBody s__law_cell, defScope s__law_cell, [], []⟩
def dA__law_draws : He5.DefA := ⟨fun K => (He.ga K "_law_draws"), "_law_draws", "_law_draws", defArgs s__law_draws, defBody s__law_draws, defScope s__law_draws, [], []⟩
def dA__law_names : He5.DefA := ⟨fun K => (He.ga K "_law_names"), "_law_names", "_law_names", defArgs s__law_names, defBody s__law_names, defScope s__law_names, [], []⟩
def dA__law_signs : He5.DefA := ⟨fun K => (He.ga K "_law_signs"), "_law_signs", "_law_signs", defArgs s__law_signs, defBody s__law_signs, defScope s__law_signs, [], []⟩
def dA__law_known : He5.DefA := ⟨fun K => (He.ga K "_law_known"), "_law_known", "_law_known", defArgs s__law_known, defBody s__law_known, defScope s__law_known, [], []⟩
def dA__law_grammar : He5.DefA := ⟨fun K => (He.ga K "_law_grammar"), "_law_grammar", "_law_grammar", defArgs s__law_grammar, defBody s__law_grammar, defScope s__law_grammar, [], []⟩
def dA__law_kept : He5.DefA := ⟨fun K => (He.ga K "_law_kept"), "_law_kept", "_law_kept", defArgs s__law_kept, defBody s__law_kept, defScope s__law_kept, [], []⟩
def dA_law : He5.DefA := ⟨fun K => (He.ga K "law"), "law", "law", defArgs s_law, defBody s_law, defScope s_law, [], []⟩
def fnA : List He5.DefA := [dA_is_sign, dA_is_name, dA_is_body, dA_names_in, dA_least_lengths, dA_useful_numbers, dA_least_derivations, dA_Table___init__, dA_Grammar___init__, dA_Grammar_rules, dA__law_cell, dA__law_draws, dA__law_names, dA__law_signs, dA__law_known, dA__law_grammar, dA__law_kept, dA_law]
def faA : List He.Fa := [.str "SIGNS" "abcdefghijklmnopqrstuvwxyz0123456789()[]{}+-*/,.;:!?", .int "MOST_PARTS" 4, .int "MOST_WORD" 24, .int "MOST_STEPS" 100, .free "len", .free "all", .free "sum", .free "sorted", .free "set", .free "range", .free "enumerate", .free "max", .free "list", .free "int", .free "isinstance", .free "str", .glo "is_sign", .glo "is_name", .glo "is_body", .glo "names_in", .glo "least_lengths", .glo "useful_numbers", .glo "least_derivations", .mkr "Table", .mkr "Grammar", .glo "_law_cell", .glo "_law_draws", .glo "_law_names", .glo "_law_signs", .glo "_law_known", .glo "_law_grammar", .glo "_law_kept", .glo "law", .cls "Table", .glo "Table", .noat "Table" "pairs", .noat "Table" "numbers", .noat "Table" "vanishing", .noat "Table" "by_name", .cls "Grammar", .glo "Grammar", .noat "Grammar" "_rules", .noat "Grammar" "root", .noat "Grammar" "_useful", .noat "Grammar" "_best", .noat "Grammar" "forward", .noat "Grammar" "backward"]
def exL : List (PySem.W.Frag → Bool) := [fun K => propB K "Grammar" "rules", fun K => He.conB K "Grammar" "MOST_RULES" (.int 16), fun K => creadB K "Grammar", fun K => cvalB K "Grammar" "MOST_RULES" (.int 16)]
def exA (K : PySem.W.Frag) : Bool := exL.all fun e => e K
theorem exAt {K : PySem.W.Frag} (c : SaysP faA fnA exA K) (i : Nat) {e : PySem.W.Frag → Bool} (h : exL[i]? = some e := by rfl) : e K = true := List.all_eq_true.mp c.more e (List.mem_of_getElem? h)
theorem txt_of {K : PySem.W.Frag} {h : Heap} {mg : Str → Option Value} (X : K.In h) (G : h.Ns mainGlobals mg) (c : SaysP faA fnA exA K) : ∃ a : Ad, Txt K mg a ∧ a.law = He.ga K "law" ∧ (∀ (s : Shared) (v : Value), BindsTo s a.d_law ⟨[v], []⟩ [("_law_script", v)]) := by
  obtain ⟨fd_is_sign, F_is_sign⟩ := c.a.def_ 0 (d := dA_is_sign) rfl
  obtain ⟨fd_is_name, F_is_name⟩ := c.a.def_ 1 (d := dA_is_name) rfl
  obtain ⟨fd_is_body, F_is_body⟩ := c.a.def_ 2 (d := dA_is_body) rfl
  obtain ⟨fd_names_in, F_names_in⟩ := c.a.def_ 3 (d := dA_names_in) rfl
  obtain ⟨fd_least_lengths, F_least_lengths⟩ := c.a.def_ 4 (d := dA_least_lengths) rfl
  obtain ⟨fd_useful_numbers, F_useful_numbers⟩ := c.a.def_ 5 (d := dA_useful_numbers) rfl
  obtain ⟨fd_least_derivations, F_least_derivations⟩ := c.a.def_ 6 (d := dA_least_derivations) rfl
  obtain ⟨fd_Table___init__, F_Table___init__⟩ := c.a.def_ 7 (d := dA_Table___init__) rfl
  obtain ⟨fd_Grammar___init__, F_Grammar___init__⟩ := c.a.def_ 8 (d := dA_Grammar___init__) rfl
  obtain ⟨fd_Grammar_rules, F_Grammar_rules⟩ := c.a.def_ 9 (d := dA_Grammar_rules) rfl
  obtain ⟨fd__law_cell, F__law_cell⟩ := c.a.def_ 10 (d := dA__law_cell) rfl
  obtain ⟨fd__law_draws, F__law_draws⟩ := c.a.def_ 11 (d := dA__law_draws) rfl
  obtain ⟨fd__law_names, F__law_names⟩ := c.a.def_ 12 (d := dA__law_names) rfl
  obtain ⟨fd__law_signs, F__law_signs⟩ := c.a.def_ 13 (d := dA__law_signs) rfl
  obtain ⟨fd__law_known, F__law_known⟩ := c.a.def_ 14 (d := dA__law_known) rfl
  obtain ⟨fd__law_grammar, F__law_grammar⟩ := c.a.def_ 15 (d := dA__law_grammar) rfl
  obtain ⟨fd__law_kept, F__law_kept⟩ := c.a.def_ 16 (d := dA__law_kept) rfl
  obtain ⟨fd_law, F_law⟩ := c.a.def_ 17 (d := dA_law) rfl
  have b := FunD.bindsA (ps := ["_law_script"]) F_law fun _ _ _ _ _ _ us hl => match us, hl with | [_], _ => rfl
  refine ⟨{ is_sign := (He.ga K "is_sign"), d_is_sign := fd_is_sign, is_name := (He.ga K "is_name"), d_is_name := fd_is_name, is_body := (He.ga K "is_body"), d_is_body := fd_is_body, names_in := (He.ga K "names_in"), d_names_in := fd_names_in, least_lengths := (He.ga K "least_lengths"), d_least_lengths := fd_least_lengths, useful_numbers := (He.ga K "useful_numbers"), d_useful_numbers := fd_useful_numbers, least_derivations := (He.ga K "least_derivations"), d_least_derivations := fd_least_derivations, Table___init__ := (He.ma K (He.ga K "Table") "__init__"), d_Table___init__ := fd_Table___init__, Grammar___init__ := (He.ma K (He.ga K "Grammar") "__init__"), d_Grammar___init__ := fd_Grammar___init__, Grammar_rules := (He5.wf K (He.ga K "Grammar") "property" "rules"), d_Grammar_rules := fd_Grammar_rules, _law_cell := (He.ga K "_law_cell"), d__law_cell := fd__law_cell, _law_draws := (He.ga K "_law_draws"), d__law_draws := fd__law_draws, _law_names := (He.ga K "_law_names"), d__law_names := fd__law_names, _law_signs := (He.ga K "_law_signs"), d__law_signs := fd__law_signs, _law_known := (He.ga K "_law_known"), d__law_known := fd__law_known, _law_grammar := (He.ga K "_law_grammar"), d__law_grammar := fd__law_grammar, _law_kept := (He.ga K "_law_kept"), d__law_kept := fd__law_kept, law := (He.ga K "law"), d_law := fd_law, Table := He.ga K "Table", Grammar := He.ga K "Grammar", pr_Grammar_rules := He.ma K (He.ga K "Grammar") "rules" }, ⟨He.str_ok X G (c.a.fact 0 (f := .str "SIGNS" "abcdefghijklmnopqrstuvwxyz0123456789()[]{}+-*/,.;:!?") rfl),
    He.int_ok X G (c.a.fact 1 (f := .int "MOST_PARTS" 4) rfl),
    He.int_ok X G (c.a.fact 2 (f := .int "MOST_WORD" 24) rfl),
    He.int_ok X G (c.a.fact 3 (f := .int "MOST_STEPS" 100) rfl),
    He.free_ok X G (c.a.fact 4 (f := .free "len") rfl),
    He.free_ok X G (c.a.fact 5 (f := .free "all") rfl),
    He.free_ok X G (c.a.fact 6 (f := .free "sum") rfl),
    He.free_ok X G (c.a.fact 7 (f := .free "sorted") rfl),
    He.free_ok X G (c.a.fact 8 (f := .free "set") rfl),
    He.free_ok X G (c.a.fact 9 (f := .free "range") rfl),
    He.free_ok X G (c.a.fact 10 (f := .free "enumerate") rfl),
    He.free_ok X G (c.a.fact 11 (f := .free "max") rfl),
    He.free_ok X G (c.a.fact 12 (f := .free "list") rfl),
    He.free_ok X G (c.a.fact 13 (f := .free "int") rfl),
    He.free_ok X G (c.a.fact 14 (f := .free "isinstance") rfl),
    He.free_ok X G (c.a.fact 15 (f := .free "str") rfl),
    He5.fun_of F_is_sign,
    F_is_sign.bindsN fun _ _ _ _ _ _ us hl => match us, hl with | [_], _ => rfl,
    He.glo_ok X G (c.a.fact 16 (f := .glo "is_sign") rfl),
    He5.fun_of F_is_name,
    F_is_name.bindsN fun _ _ _ _ _ _ us hl => match us, hl with | [_], _ => rfl,
    He.glo_ok X G (c.a.fact 17 (f := .glo "is_name") rfl),
    He5.fun_of F_is_body,
    F_is_body.bindsN fun _ _ _ _ _ _ us hl => match us, hl with | [_], _ => rfl,
    He.glo_ok X G (c.a.fact 18 (f := .glo "is_body") rfl),
    He5.fun_of F_names_in,
    F_names_in.bindsN fun _ _ _ _ _ _ us hl => match us, hl with | [_], _ => rfl,
    He.glo_ok X G (c.a.fact 19 (f := .glo "names_in") rfl),
    He5.fun_of F_least_lengths,
    F_least_lengths.bindsN fun _ _ _ _ _ _ us hl => match us, hl with | [_], _ => rfl,
    He.glo_ok X G (c.a.fact 20 (f := .glo "least_lengths") rfl),
    He5.fun_of F_useful_numbers,
    F_useful_numbers.bindsN fun _ _ _ _ _ _ us hl => match us, hl with | [_, _, _], _ => rfl,
    He.glo_ok X G (c.a.fact 21 (f := .glo "useful_numbers") rfl),
    He5.fun_of F_least_derivations,
    F_least_derivations.bindsN fun _ _ _ _ _ _ us hl => match us, hl with | [_, _, _], _ => rfl,
    He.glo_ok X G (c.a.fact 22 (f := .glo "least_derivations") rfl),
    He5.fun_of F_Table___init__,
    F_Table___init__.bindsN fun _ _ _ _ _ _ us hl => match us, hl with | [_, _, _, _], _ => rfl,
    He.mkr_ok (c.a.fact 23 (f := .mkr "Table") rfl),
    F_Grammar___init__,
    F_Grammar___init__.kp,
    He.mkr_ok (c.a.fact 24 (f := .mkr "Grammar") rfl),
    He5.fun_of F_Grammar_rules,
    F_Grammar_rules.bindsN fun _ _ _ _ _ _ us hl => match us, hl with | [_], _ => rfl,
    propB_ok (exAt c 0),
    He5.fun_of F__law_cell,
    F__law_cell.bindsN fun _ _ _ _ _ _ us hl => match us, hl with | [_, _], _ => rfl,
    He.glo_ok X G (c.a.fact 25 (f := .glo "_law_cell") rfl),
    He5.fun_of F__law_draws,
    F__law_draws.bindsN fun _ _ _ _ _ _ us hl => match us, hl with | [_, _], _ => rfl,
    He.glo_ok X G (c.a.fact 26 (f := .glo "_law_draws") rfl),
    He5.fun_of F__law_names,
    F__law_names.bindsN fun _ _ _ _ _ _ us hl => match us, hl with | [_], _ => rfl,
    He.glo_ok X G (c.a.fact 27 (f := .glo "_law_names") rfl),
    He5.fun_of F__law_signs,
    F__law_signs.bindsN fun _ _ _ _ _ _ us hl => match us, hl with | [_], _ => rfl,
    He.glo_ok X G (c.a.fact 28 (f := .glo "_law_signs") rfl),
    He5.fun_of F__law_known,
    F__law_known.bindsN fun _ _ _ _ _ _ us hl => match us, hl with | [_, _, _], _ => rfl,
    He.glo_ok X G (c.a.fact 29 (f := .glo "_law_known") rfl),
    He5.fun_of F__law_grammar,
    F__law_grammar.bindsN fun _ _ _ _ _ _ us hl => match us, hl with | [_], _ => rfl,
    He.glo_ok X G (c.a.fact 30 (f := .glo "_law_grammar") rfl),
    He5.fun_of F__law_kept,
    F__law_kept.bindsN fun _ _ _ _ _ _ us hl => match us, hl with | [_, _, _], _ => rfl,
    He.glo_ok X G (c.a.fact 31 (f := .glo "_law_kept") rfl),
    He5.fun_of F_law,
    F_law.bindsN fun _ _ _ _ _ _ us hl => match us, hl with | [_], _ => rfl,
    He.glo_ok X G (c.a.fact 32 (f := .glo "law") rfl),
    He.cls_ok (c.a.fact 33 (f := .cls "Table") rfl),
    He.glo_ok X G (c.a.fact 34 (f := .glo "Table") rfl),
    He.noat_ok (c.a.fact 35 (f := .noat "Table" "pairs") rfl),
    He.noat_ok (c.a.fact 36 (f := .noat "Table" "numbers") rfl),
    He.noat_ok (c.a.fact 37 (f := .noat "Table" "vanishing") rfl),
    He.noat_ok (c.a.fact 38 (f := .noat "Table" "by_name") rfl),
    He.cls_ok (c.a.fact 39 (f := .cls "Grammar") rfl),
    He.glo_ok X G (c.a.fact 40 (f := .glo "Grammar") rfl),
    He.noat_ok (c.a.fact 41 (f := .noat "Grammar" "_rules") rfl),
    He.noat_ok (c.a.fact 42 (f := .noat "Grammar" "root") rfl),
    He.noat_ok (c.a.fact 43 (f := .noat "Grammar" "_useful") rfl),
    He.noat_ok (c.a.fact 44 (f := .noat "Grammar" "_best") rfl),
    He.noat_ok (c.a.fact 45 (f := .noat "Grammar" "forward") rfl),
    He.noat_ok (c.a.fact 46 (f := .noat "Grammar" "backward") rfl),
    He.conB_ok (exAt c 1),
    creadB_ok (exAt c 2),
    cvalB_ok (exAt c 3)⟩, rfl, fun s v => b s [v] rfl⟩
end
abbrev R : PySem.W.OpenRow := PySem.W.OpenLaw.row PySem.Challenge.rw_surefaults_k05_grammar_rules
def loose : List PySem.Str := (["_wall", "__name__", "SureError", "BadCount", "BadRule", "BadLine", "UnknownName", "NoValidText", "TooLong", "TooManySteps", "BadSign", "SIGNS", "MOST_SIGNS", "is_sign", "check_text", "Table", "Column", "first_column", "consequences", "next_column", "first_end", "MOST_PARTS", "MOST_WORD", "MOST_STEPS", "is_name", "is_body", "names_in", "least_lengths", "useful_numbers", "least_derivations"] : List PySem.Str) ++ (["rules_of_line", "Grammar", "_law_cell", "_law_draws", "_law_names", "_law_signs", "_law_known", "_law_grammar", "_law_kept"] : List PySem.Str)
abbrev hk : PySem.W.Hook := hookP 7 faA fnA exA
def ob (s : PySem.W.SharedT) : AlP := obsPG 7 faA fnA exA (HandSHeadRun.getT s)
theorem ob_eq (s : PySem.W.SharedT) : ob s = hk.obs s.abs := obsPG_eq (HandSHeadRun.getT_eq s)
set_option maxHeartbeats 0 in
theorem run (w : World) : HandSHeadRun.RunEq R (PySem.W.view R.prog [42]) hk ob 200000 loose w := by
  intro os
  kernel_rfl
end SF
open PySem PySem.W PySem.Calls PyProof.Rows
set_option maxRecDepth 100000 in
set_option maxHeartbeats 0 in
theorem PySem.Challenge.cw_surefaults_k05_grammar_rules_holds : PySem.Challenge.rw_surefaults_k05_grammar_rules.Holds := by
  w_on; o_law
  refine HandSHeadRun.head_any (r := OpenLaw.row PySem.Challenge.rw_surefaults_k05_grammar_rules) (q := view (OpenLaw.row PySem.Challenge.rw_surefaults_k05_grammar_rules).prog [42]) (H := SF.hk) (ob := SF.ob) (M := 200000) (loose := SF.loose) (d := HandSHeadRun.topDef (OpenLaw.row PySem.Challenge.rw_surefaults_k05_grammar_rules).prog 42) (kwd := []) SF.ob_eq
    (by kernel_rfl) (fun s => by kernel_rfl) SF.run (by kernel_rfl) (by kernel_rfl) (by kernel_rfl) (by rfl) (by first | assumption | decide +kernel) (by decide +kernel) ⟨rfl, rfl, rfl, rfl, rfl, by decide +kernel⟩ ?hw ?hc
  case hw => w_witness2
  case hc =>
    refine L2.walk_ofE (l := PySem.Challenge.rw_surefaults_k05_grammar_rules) (n := 63) (k := 6) (x := "_law_script") (CX := L2.CX0) rfl (by decide) (by kernel_rfl) ⟨rfl, by decide, by decide⟩ ?F (fun _ _ _ _ z => z)
    intro w mg fa h Y G hmg0
    obtain ⟨K, KX, c⟩ := Y
    have hmg : mg ("law" : PySem.Str) = some (.ref fa) := by
      have e : (HandSHeadRun.topDef (OpenLaw.row PySem.Challenge.rw_surefaults_k05_grammar_rules).prog 42).name = ("law" : PySem.Str) := by kernel_rfl
      rw [← e]
      exact hmg0
    obtain ⟨a, T, ha, hb⟩ := SF.txt_of KX G c
    have e := hmg.symm.trans T.m_law
    injection e with e
    injection e with e
    subst e
    exact ⟨K, a.d_law, SF.sp_law K, KX, hb, fun H a ns hl _ hS => ⟨a, ns, rfl, hS, hl, fun _ => rfl⟩, fun base _ _ => SF.ok_law T⟩
