import PyProof.Rows.All
import Wide.All
import OpenK.AllK
import Wide.FinOn
import HandS.ForMost
import HandS.Style
import HandS.Wide
import HandS.Walk
import HandS.Defaults
import HandS.MakeKwOnly
import HandS.Property
import HandS.DictComp
import HandS.IsInst
import HandS.ClsMeth
import HandS.More
import HandS.Conv
import KE.LtData
import KE.DatumOrd
import HandS.SetTxt0
import HandS.Set
import HandS.TupSets
import KE.KRevSl
import KE.KStateDown
import HandS.Head0
import HandS.Head1
import HandS.Head2
import HandS.HeadEnd
import HandS.HeadHook1
import HandS.HeadHook2
import HandS.HeadHook3
import HandS.HeadNt
import PyProof.DictCompW
import HandS.Star
import HandS.TupLen
import HandS.SetBool
import PySem.Challenge.RW_surefaults_k09_whole_useful_rules
set_option Elab.async false
set_option linter.all false
set_option maxRecDepth 100000
set_option maxHeartbeats 4000000
namespace SF
def SIGNSl : List Nat := [97, 98, 99, 100, 101, 102, 103, 104, 105, 106, 107, 108, 109, 110, 111, 112, 113, 114, 115, 116, 117, 118, 119, 120, 121, 122, 48, 49, 50, 51, 52, 53, 54, 55, 56, 57, 40, 41, 91, 93, 123, 125, 43, 45, 42, 47, 44, 46, 59, 58, 33, 63]
def sgn (c : Nat) : Bool := decide (c ∈ SIGNSl)
def nam (c : Nat) : Bool := decide (65 ≤ c ∧ c ≤ 90)
theorem nam_iff {c : Nat} : nam c = true ↔ 65 ≤ c ∧ c ≤ 90 := by simp [nam]
def isSign : List Nat → Bool
  | [c] => sgn c
  | _ => false
def isName : List Nat → Bool
  | [c] => nam c
  | _ => false
def isBody (l : List Nat) : Bool := decide (l.length ≤ 4) && l.all fun c => sgn c || nam c
/-- the names of a body, in order -/
def namesIn (l : List Nat) : List Nat := l.filter nam
/-- one sign or name as a text -/
abbrev ch1 (l : List Nat) : List (List Nat) := l.map fun c => [c]
abbrev Rule := Nat × List Nat
structure Tri (α β γ : Type) where
  a : α
  b : β
  c : γ
  deriving DecidableEq, Repr
/-! ### a dict as the list of its pairs -/
section
variable {κ κ' α β : Type} [DecidableEq κ] [DecidableEq κ']
def aGet (m : List (κ × α)) (k : κ) : Option α := (m.find? fun p => decide (p.1 = k)).map (·.2)
def aPut (m : List (κ × α)) (k : κ) (x : α) : List (κ × α) :=
  if (m.any fun p => decide (p.1 = k)) = true then m.map (fun p => if p.1 = k then (p.1, x) else p) else m ++ [(k, x)]
theorem aGet_nil {k : κ} : aGet ([] : List (κ × α)) k = none := rfl
theorem aGet_cons {p : κ × α} {m : List (κ × α)} {k : κ} : aGet (p :: m) k = if p.1 = k then some p.2 else aGet m k := by
  unfold aGet
  by_cases h : p.1 = k
  · simp [List.find?_cons, h]
  · simp [List.find?_cons, h]
theorem aGet_any (k : κ) (m : List (κ × α)) : (m.any fun p => decide (p.1 = k)) = (aGet m k).isSome := by
  induction m with
  | nil => rfl
  | cons p r ih =>
    rw [List.any_cons, aGet_cons, ih]
    by_cases h : p.1 = k
    · simp [h]
    · simp [h]
theorem aGet_app {m m2 : List (κ × α)} {k : κ} : aGet (m ++ m2) k = (aGet m k).or (aGet m2 k) := by
  induction m with
  | nil => rfl
  | cons p r ih =>
    rw [List.cons_append, aGet_cons, aGet_cons, ih]
    by_cases h : p.1 = k
    · simp [h]
    · simp [h]
theorem aGet_map (k j : κ) (x : α) (m : List (κ × α)) : aGet (m.map fun p => if p.1 = k then (p.1, x) else p) j = (aGet m j).map fun y => if j = k then x else y := by
  induction m with
  | nil => rfl
  | cons p r ih =>
    rw [List.map_cons, aGet_cons, aGet_cons, ih]
    by_cases h : p.1 = k
    · by_cases h2 : p.1 = j
      · have e : k = j := h.symm.trans h2
        simp [h, e]
      · simp [h]
        have : k ≠ j := fun e => h2 (h.trans e)
        simp [this]
    · by_cases h2 : p.1 = j
      · have : ¬ j = k := fun e => h (h2.trans e)
        simp [h, h2, this]
      · simp [h, h2]
theorem aGet_put (m : List (κ × α)) (k j : κ) (x : α) : aGet (aPut m k x) j = if j = k then some x else aGet m j := by
  unfold aPut
  by_cases h : (m.any fun p => decide (p.1 = k)) = true
  · rw [if_pos h, aGet_map]
    by_cases e : j = k
    · subst e
      rw [aGet_any] at h
      cases q : aGet m j with
      | none => rw [q] at h; exact absurd h (by simp)
      | some y => simp
    · simp [e]
  · rw [if_neg h, aGet_app, aGet_cons]
    rw [aGet_any] at h
    have hn : aGet m k = none := by
      cases q : aGet m k with
      | none => rfl
      | some y => rw [q] at h; simp at h
    by_cases e : j = k
    · subst e; rw [hn]; simp
    · have e' : ¬ k = j := fun z => e z.symm
      simp [e, e', aGet_nil]
theorem aGet_mem {m : List (κ × α)} {k : κ} {x : α} (h : aGet m k = some x) : (k, x) ∈ m := by
  induction m with
  | nil => cases h
  | cons p r ih =>
    rw [aGet_cons] at h
    by_cases e : p.1 = k
    · rw [if_pos e] at h
      cases h
      subst e
      exact List.mem_cons_self
    · rw [if_neg e] at h
      exact List.mem_cons_of_mem _ (ih h)
theorem aGet_of_mem {m : List (κ × α)} {k : κ} {x : α} (hn : (m.map (·.1)).Nodup) (h : (k, x) ∈ m) : aGet m k = some x := by
  induction m with
  | nil => cases h
  | cons p r ih =>
    rw [aGet_cons]
    rw [List.map_cons, List.nodup_cons] at hn
    rcases List.mem_cons.mp h with rfl | h
    · simp
    · have : ¬ p.1 = k := fun e => hn.1 (by rw [e]; exact List.mem_map_of_mem (f := (·.1)) h)
      rw [if_neg this]
      exact ih hn.2 h
theorem aGet_none {m : List (κ × α)} {k : κ} : aGet m k = none ↔ k ∉ m.map (·.1) := by
  induction m with
  | nil => simp [aGet_nil]
  | cons p r ih =>
    rw [aGet_cons]
    by_cases e : p.1 = k
    · simp [e]
    · have e' : ¬ k = p.1 := fun z => e z.symm
      rw [if_neg e, ih]
      simp [e']
theorem aPut_keys (m : List (κ × α)) (k : κ) (x : α) : (aPut m k x).map (·.1) = if (aGet m k).isSome then m.map (·.1) else m.map (·.1) ++ [k] := by
  unfold aPut
  rw [aGet_any]
  by_cases h : (aGet m k).isSome = true
  · rw [if_pos h, if_pos h, List.map_map]
    apply List.map_congr_left
    intro p _
    show (if p.1 = k then (p.1, x) else p).1 = p.1
    split <;> rfl
  · rw [if_neg h, if_neg h, List.map_append]; rfl
theorem aPut_nodup {m : List (κ × α)} {k : κ} {x : α} (h : (m.map (·.1)).Nodup) : ((aPut m k x).map (·.1)).Nodup := by
  rw [aPut_keys]
  split
  · exact h
  · rename_i q
    have hk : k ∉ m.map (·.1) := aGet_none.mp (by cases z : aGet m k with | none => rfl | some y => rw [z] at q; simp at q)
    rw [List.nodup_append]
    exact ⟨h, by simp, fun a ha b hb => by simp at hb; subst hb; exact fun e => hk (e ▸ ha)⟩
theorem aPut_length (m : List (κ × α)) (k : κ) (x : α) : (aPut m k x).length = if (aGet m k).isSome then m.length else m.length + 1 := by
  have := congrArg List.length (aPut_keys m k x)
  rw [List.length_map] at this
  rw [this]
  split <;> simp
end
/-- distinct members of a list are no more than its items -/
theorem nodup_le {α : Type} [DecidableEq α] : ∀ {l s : List α}, l.Nodup → (∀ x ∈ l, x ∈ s) → l.length ≤ s.length
  | [], _, _, _ => Nat.zero_le _
  | a :: l, s, hn, hs => by
    rw [List.nodup_cons] at hn
    have ha : a ∈ s := hs a List.mem_cons_self
    have ih := nodup_le (l := l) (s := s.erase a) hn.2 fun x hx => by
      have hne : x ≠ a := fun e => hn.1 (e ▸ hx)
      exact (List.mem_erase_of_ne hne).mpr (hs x (List.mem_cons_of_mem _ hx))
    rw [List.length_erase_of_mem ha] at ih
    have : 0 < s.length := List.length_pos_of_mem ha
    simp only [List.length_cons]
    omega
/-- as many items as distinct members: no item twice -/
theorem nodup_of_len {α : Type} [DecidableEq α] : ∀ {s l : List α}, l.Nodup → (∀ x ∈ l, x ∈ s) → s.length = l.length → s.Nodup
  | [], _, _, _, _ => List.nodup_nil
  | a :: s, l, hn, hs, hlen => by
    by_cases ha : a ∈ s
    · have h2 : ∀ x ∈ l, x ∈ s := fun x hx => by
        rcases List.mem_cons.mp (hs x hx) with z | z
        · rw [z]; exact ha
        · exact z
      have := nodup_le hn h2
      simp only [List.length_cons] at hlen
      omega
    · rw [List.nodup_cons]
      refine ⟨ha, ?_⟩
      by_cases hal : a ∈ l
      · refine nodup_of_len (l := l.erase a) (hn.erase a) (fun x hx => ?_) ?_
        · have hx' := List.mem_of_mem_erase hx
          rcases List.mem_cons.mp (hs x hx') with z | z
          · subst z; exact absurd hx (List.Nodup.not_mem_erase hn)
          · exact z
        · rw [List.length_erase_of_mem hal]
          simp only [List.length_cons] at hlen
          omega
      · have h2 : ∀ x ∈ l, x ∈ s := fun x hx => by
          rcases List.mem_cons.mp (hs x hx) with z | z
          · subst z; exact absurd hx hal
          · exact z
        have := nodup_le hn h2
        simp only [List.length_cons] at hlen
        omega
theorem nam_few {l : List Nat} (hn : l.Nodup) (hs : ∀ x ∈ l, nam x = true) : l.length ≤ 26 := by
  have := nodup_le (s := (List.range 26).map (· + 65)) hn fun x hx => by
    have := nam_iff.mp (hs x hx)
    rw [List.mem_map]
    exact ⟨x - 65, List.mem_range.mpr (by omega), by omega⟩
  simpa using this
/-! ### sums with one place changed -/
theorem sum_change (f g : Nat → Nat) (j : Nat) (hg : ∀ i, i ≠ j → g i = f i) : ∀ k, ((List.range k).map g).sum + (if j < k then f j else 0) = ((List.range k).map f).sum + (if j < k then g j else 0)
  | 0 => by simp
  | k + 1 => by
    have ih := sum_change f g j hg k
    rw [List.range_succ, List.map_append, List.map_append, List.sum_append, List.sum_append]
    simp only [List.map_cons, List.map_nil, List.sum_cons, List.sum_nil, Nat.add_zero]
    by_cases h1 : j < k
    · rw [if_pos h1, if_pos h1] at ih
      rw [if_pos (by omega), if_pos (by omega), hg k (by omega)]
      omega
    · rw [if_neg h1, if_neg h1] at ih
      by_cases h2 : j = k
      · subst h2
        rw [if_pos (by omega), if_pos (by omega)]
        omega
      · rw [if_neg (by omega), if_neg (by omega), hg k (fun e => h2 e.symm)]
        omega
/-! ### least lengths -/
/-- the sum of what the parts have -/
def total (m : List (Nat × Nat)) (b : List Nat) : Nat := b.length - (namesIn b).length + ((namesIn b).map fun c => (aGet m c).getD 0).sum
def allIn {α : Type} (m : List (Nat × α)) (b : List Nat) : Bool := (namesIn b).all fun c => (aGet m c).isSome
/-- total < what stands there, or nothing stands there -/
def better (m : List (Nat × Nat)) (r : Rule) : Bool := match aGet m r.1 with
  | none => true
  | some x => decide (total m r.2 < x)
def llStep (st : List (Nat × Nat) × Bool) (r : Rule) : List (Nat × Nat) × Bool :=
  if allIn st.1 r.2 = true then (if better st.1 r = true then (aPut st.1 r.1 (total st.1 r.2), true) else st) else st
def llRound (rules : List Rule) (m : List (Nat × Nat)) : List (Nat × Nat) × Bool := rules.foldl llStep (m, false)
/-- rounds until nothing changes -/
def rounds {α : Type} (f : α → α × Bool) : Nat → α → α
  | 0, m => m
  | n + 1, m => if (f m).2 = true then rounds f n (f m).1 else (f m).1
def BIG : Nat := 4 ^ 28
def mu (m : List (Nat × Nat)) : Nat := ((List.range 26).map fun i => (aGet m (65 + i)).getD BIG).sum
def llFuel : Nat := mu [] + 1
def leastLengths (rules : List Rule) : List (Nat × Nat) := rounds (llRound rules) llFuel []
/-- what holds of the lengths at each time -/
structure LLok (m : List (Nat × Nat)) : Prop where
  nd : (m.map (·.1)).Nodup
  nm : ∀ c ∈ m.map (·.1), nam c = true
  le : ∀ c x, aGet m c = some x → x ≤ 4 ^ m.length
theorem LLok.few {m : List (Nat × Nat)} (h : LLok m) : m.length ≤ 26 := by
  have := nam_few h.nd h.nm
  rwa [List.length_map] at this
theorem LLok.nil : LLok [] := ⟨by simp, by simp, fun c x h => by cases h⟩
theorem namesIn_le (b : List Nat) : (namesIn b).length ≤ b.length := List.length_filter_le _ _
theorem sum_le_mul {α : Type} (f : α → Nat) (B : Nat) : ∀ (l : List α), (∀ c ∈ l, f c ≤ B) → (l.map f).sum ≤ l.length * B
  | [], _ => by simp
  | a :: l, h => by
    have ih := sum_le_mul f B l fun c hc => h c (List.mem_cons_of_mem _ hc)
    have := h a List.mem_cons_self
    simp only [List.map_cons, List.sum_cons, List.length_cons, Nat.succ_mul]
    omega
theorem pow4_pos (n : Nat) : 1 ≤ 4 ^ n := Nat.pow_pos (by decide)
theorem total_le {m : List (Nat × Nat)} (h : LLok m) {b : List Nat} (hb : b.length ≤ 4) : total m b ≤ 4 ^ (m.length + 1) := by
  unfold total
  have h1 := namesIn_le b
  have h2 := sum_le_mul (fun c => (aGet m c).getD 0) (4 ^ m.length) (namesIn b) fun c _ => by
    cases q : aGet m c with
    | none => simp
    | some x => exact h.le c x q
  have h3 := pow4_pos m.length
  have h4 : (b.length - (namesIn b).length) * 1 ≤ (b.length - (namesIn b).length) * 4 ^ m.length := Nat.mul_le_mul_left _ h3
  have h5 : (b.length - (namesIn b).length) * 4 ^ m.length + (namesIn b).length * 4 ^ m.length = b.length * 4 ^ m.length := by
    rw [← Nat.add_mul]
    congr 1
    omega
  have h6 : b.length * 4 ^ m.length ≤ 4 * 4 ^ m.length := Nat.mul_le_mul_right _ hb
  rw [Nat.pow_succ, Nat.mul_comm]
  omega
theorem LLok.put {m : List (Nat × Nat)} (h : LLok m) {r : Rule} (hn : nam r.1 = true) (hb : r.2.length ≤ 4) : better m r = true → LLok (aPut m r.1 (total m r.2)) := fun hbt => by
  refine ⟨aPut_nodup h.nd, fun c hc => ?_, fun c x hx => ?_⟩
  · rw [aPut_keys] at hc
    split at hc
    · exact h.nm c hc
    · rcases List.mem_append.mp hc with hc | hc
      · exact h.nm c hc
      · simp at hc; subst hc; exact hn
  · rw [aGet_put] at hx
    rw [aPut_length]
    unfold better at hbt
    by_cases e : c = r.1
    · subst e
      rw [if_pos rfl] at hx
      cases hx
      cases q : aGet m r.1 with
      | none => simp only [Option.isSome_none, Bool.false_eq_true, if_false]; exact total_le h hb
      | some y =>
        rw [q] at hbt
        have := h.le _ _ q
        simp only [Option.isSome_some, if_true]
        have : total m r.2 < y := of_decide_eq_true hbt
        omega
    · rw [if_neg e] at hx
      have := h.le _ _ hx
      split
      · exact this
      · have := Nat.pow_le_pow_right (show 0 < 4 by decide) (show m.length ≤ m.length + 1 by omega)
        omega
theorem mu_put {m : List (Nat × Nat)} (h : LLok m) {r : Rule} (hn : nam r.1 = true) (hb : r.2.length ≤ 4) (hbt : better m r = true) : mu (aPut m r.1 (total m r.2)) < mu m := by
  have hr := nam_iff.mp hn
  have key := sum_change (fun i => (aGet m (65 + i)).getD BIG) (fun i => (aGet (aPut m r.1 (total m r.2)) (65 + i)).getD BIG) (r.1 - 65) (fun i hi => by
    show (aGet (aPut m r.1 (total m r.2)) (65 + i)).getD BIG = _
    rw [aGet_put, if_neg (by omega)]) 26
  rw [if_pos (by omega), if_pos (by omega)] at key
  have e : 65 + (r.1 - 65) = r.1 := by omega
  simp only [e] at key
  rw [aGet_put, if_pos rfl] at key
  unfold better at hbt
  have hlt : total m r.2 < (aGet m r.1).getD BIG := by
    cases q : aGet m r.1 with
    | some y => rw [q] at hbt; exact of_decide_eq_true hbt
    | none =>
      have h1 := total_le h hb
      have h2 := h.few
      have h3 := Nat.pow_le_pow_right (show 0 < 4 by decide) (show m.length + 1 ≤ 27 by omega)
      have h4 : (4 : Nat) ^ 27 < BIG := by unfold BIG; decide
      show total m r.2 < BIG
      omega
  unfold mu
  simp only [Option.getD_some] at key
  omega
/-- rules that a grammar may have -/
def RulesOk (rules : List Rule) : Prop := ∀ r ∈ rules, nam r.1 = true ∧ r.2.length ≤ 4 ∧ ∀ c ∈ r.2, (sgn c || nam c) = true
theorem llStep_ok {st : List (Nat × Nat) × Bool} (h : LLok st.1) {r : Rule} (hn : nam r.1 = true) (hb : r.2.length ≤ 4) : LLok (llStep st r).1 := by
  unfold llStep
  split
  · split
    · rename_i hbt; exact h.put hn hb hbt
    · exact h
  · exact h
/-- behind some steps: fewer is left, or nothing changed -/
theorem llFold {rules : List Rule} : ∀ (st : List (Nat × Nat) × Bool), (∀ r ∈ rules, nam r.1 = true ∧ r.2.length ≤ 4) → LLok st.1 →
    LLok (rules.foldl llStep st).1 ∧ mu (rules.foldl llStep st).1 ≤ mu st.1 ∧ (st.2 = false → (rules.foldl llStep st).2 = true → mu (rules.foldl llStep st).1 < mu st.1) ∧ ((rules.foldl llStep st).2 = false → (rules.foldl llStep st) = st) := by
  induction rules with
  | nil =>
    intro st _ h
    refine ⟨h, Nat.le_refl _, fun h1 h2 => ?_, fun _ => rfl⟩
    rw [List.foldl_nil, h1] at h2
    cases h2
  | cons r rest ih =>
    intro st hr h
    have hr0 := hr r List.mem_cons_self
    have h1 := llStep_ok h hr0.1 hr0.2
    obtain ⟨a1, a2, a3, a4⟩ := ih (llStep st r) (fun x hx => hr x (List.mem_cons_of_mem _ hx)) h1
    rw [List.foldl_cons]
    refine ⟨a1, ?_, ?_, ?_⟩
    · have : mu (llStep st r).1 ≤ mu st.1 := by
        unfold llStep
        split
        · split
          · rename_i hbt; exact Nat.le_of_lt (mu_put h hr0.1 hr0.2 hbt)
          · exact Nat.le_refl _
        · exact Nat.le_refl _
      omega
    · intro q1 q2
      by_cases hch : (llStep st r).2 = false
      · have := a3 hch q2
        have : mu (llStep st r).1 ≤ mu st.1 := by
          unfold llStep
          split
          · split
            · rename_i hbt; exact Nat.le_of_lt (mu_put h hr0.1 hr0.2 hbt)
            · exact Nat.le_refl _
          · exact Nat.le_refl _
        omega
      · have : mu (llStep st r).1 < mu st.1 := by
          unfold llStep at hch ⊢
          split
          · split
            · rename_i hbt; exact mu_put h hr0.1 hr0.2 hbt
            · rename_i x y; simp [x, y, q1] at hch
          · rename_i x; simp [x, q1] at hch
        omega
    · intro q
      have e := a4 q
      rw [e] at q
      rw [e]
      unfold llStep at q ⊢
      split
      · split
        · rename_i x y; simp [x, y] at q
        · rfl
      · rfl
end SF
namespace SF
/-! ### useful numbers -/
def letters : List Nat := (List.range 26).map (· + 65)
theorem letters_mem {c : Nat} : c ∈ letters ↔ nam c = true := by
  unfold letters
  rw [nam_iff, List.mem_map]
  constructor
  · rintro ⟨i, hi, rfl⟩
    have := List.mem_range.mp hi
    omega
  · intro h
    exact ⟨c - 65, List.mem_range.mpr (by omega), by omega⟩
/-- the names of a body, each once, ascending -/
def sortedNames (b : List Nat) : List Nat := letters.filter fun c => decide (c ∈ b)
theorem sortedNames_mem {b : List Nat} {c : Nat} : c ∈ sortedNames b ↔ c ∈ namesIn b := by
  unfold sortedNames namesIn
  rw [List.mem_filter, List.mem_filter, letters_mem, decide_eq_true_eq]
  exact And.comm
def uStep {α : Type} (lens : List (Nat × α)) (c : Nat) (re : List Nat) (r : Rule) : List Nat :=
  if r.1 = c ∧ allIn lens r.2 = true then re ++ (sortedNames r.2).filter fun x => decide (x ∉ re) else re
def ureach {α : Type} (rules : List Rule) (lens : List (Nat × α)) : Nat → List Nat → Nat → List Nat
  | 0, re, _ => re
  | n + 1, re, i => match re[i]? with
    | none => re
    | some c => ureach rules lens n (rules.foldl (uStep lens c) re) (i + 1)
theorem ureach_some {α : Type} {rules : List Rule} {lens : List (Nat × α)} {n i c : Nat} {re : List Nat} (h : re[i]? = some c) : ureach rules lens (n + 1) re i = ureach rules lens n (rules.foldl (uStep lens c) re) (i + 1) := by
  show (match re[i]? with | none => re | some c => ureach rules lens n (rules.foldl (uStep lens c) re) (i + 1)) = _
  rw [h]
theorem ureach_none {α : Type} {rules : List Rule} {lens : List (Nat × α)} {n i : Nat} {re : List Nat} (h : re[i]? = none) : ureach rules lens n re i = re := by
  cases n with
  | zero => rfl
  | succ n =>
    show (match re[i]? with | none => re | some c => ureach rules lens n (rules.foldl (uStep lens c) re) (i + 1)) = _
    rw [h]
def reached {α : Type} (rules : List Rule) (root : Nat) (lens : List (Nat × α)) : List Nat := ureach rules lens 27 [root] 0
def usefulAt {α : Type} (re : List Nat) (lens : List (Nat × α)) (r : Rule) : Bool := decide (r.1 ∈ re) && allIn lens r.2
def usefulNumbers {α : Type} (rules : List Rule) (root : Nat) (lens : List (Nat × α)) : List Nat :=
  (rules.zipIdx.filter fun p => usefulAt (reached rules root lens) lens p.1).map (·.2)
/-- distinct names -/
def NmOk (re : List Nat) : Prop := re.Nodup ∧ ∀ c ∈ re, nam c = true
theorem NmOk.few {re : List Nat} (h : NmOk re) : re.length ≤ 26 := nam_few h.1 h.2
theorem letters_asc : letters.Pairwise (· < ·) := by
  unfold letters
  rw [List.pairwise_map]
  exact (List.pairwise_lt_range (n := 26)).imp fun h => by omega
theorem sortedNames_asc (b : List Nat) : (sortedNames b).Pairwise (· < ·) := List.Pairwise.filter _ letters_asc
theorem sortedNames_nodup (b : List Nat) : (sortedNames b).Nodup := (sortedNames_asc b).imp fun h => Nat.ne_of_lt h
theorem uStep_ok {α : Type} {lens : List (Nat × α)} {c : Nat} {re : List Nat} {r : Rule} (h : NmOk re) : NmOk (uStep lens c re r) := by
  unfold uStep
  split
  · refine ⟨?_, fun x hx => ?_⟩
    · rw [List.nodup_append]
      refine ⟨h.1, List.Pairwise.filter _ (sortedNames_nodup r.2), fun a ha b hb e => ?_⟩
      have := (List.mem_filter.mp hb).2
      rw [decide_eq_true_eq] at this
      exact this (e ▸ ha)
    · rcases List.mem_append.mp hx with z | z
      · exact h.2 x z
      · have := (List.mem_filter.mp (List.mem_filter.mp z).1).1
        exact letters_mem.mp this
  · exact h
theorem uFold_ok {α : Type} {lens : List (Nat × α)} {c : Nat} : ∀ {rules : List Rule} {re : List Nat}, NmOk re → NmOk (rules.foldl (uStep lens c) re)
  | [], _, h => h
  | r :: rest, re, h => uFold_ok (rules := rest) (uStep_ok (r := r) h)
theorem uStep_pre {α : Type} {lens : List (Nat × α)} {c : Nat} {re : List Nat} {r : Rule} : re <+: uStep lens c re r := by
  unfold uStep
  split
  · exact List.prefix_append _ _
  · exact List.prefix_refl _
theorem uFold_pre {α : Type} {lens : List (Nat × α)} {c : Nat} : ∀ {rules : List Rule} {re : List Nat}, re <+: rules.foldl (uStep lens c) re
  | [], re => List.prefix_refl _
  | r :: rest, re => (uStep_pre (r := r)).trans (uFold_pre (rules := rest))
/-- two ascending lists without doubles and with the same members are one -/
theorem asc_eq : ∀ {l m : List Nat}, l.Pairwise (· < ·) → m.Pairwise (· < ·) → (∀ x, x ∈ l ↔ x ∈ m) → l = m
  | [], [], _, _, _ => rfl
  | [], b :: m, _, _, h => absurd ((h b).mpr List.mem_cons_self) (by simp)
  | a :: l, [], _, _, h => absurd ((h a).mp List.mem_cons_self) (by simp)
  | a :: l, b :: m, h1, h2, h => by
    rw [List.pairwise_cons] at h1 h2
    have hab : a = b := by
      rcases List.mem_cons.mp ((h a).mp List.mem_cons_self) with z | z
      · exact z
      · rcases List.mem_cons.mp ((h b).mpr List.mem_cons_self) with y | y
        · exact y.symm
        · have q1 := h2.1 a z
          have q2 := h1.1 b y
          omega
    subst hab
    rw [asc_eq h1.2 h2.2 fun x => ?_]
    constructor
    · intro hx
      rcases List.mem_cons.mp ((h x).mp (List.mem_cons_of_mem _ hx)) with z | z
      · subst z; exact absurd (h1.1 x hx) (Nat.lt_irrefl _)
      · exact z
    · intro hx
      rcases List.mem_cons.mp ((h x).mpr (List.mem_cons_of_mem _ hx)) with z | z
      · subst z; exact absurd (h2.1 x hx) (Nat.lt_irrefl _)
      · exact z
end SF
namespace SF
open PySem PySem.Spec PyProof.Rows L2
/-! ### texts as lists of code points -/
/-- the text of these code points -/
abbrev S (l : List Nat) : Str := ⟨l.toArray⟩
theorem S_len (l : List Nat) : (S l).length = l.length := by
  show l.toArray.size = _
  simp
theorem S_app (a b : List Nat) : (S a ++ S b : Str) = S (a ++ b) := by
  show (⟨a.toArray ++ b.toArray⟩ : Str) = ⟨(a ++ b).toArray⟩
  simp
theorem S_inj {a b : List Nat} : S a = S b ↔ a = b := by
  constructor
  · intro h
    have q := congrArg (fun z : Str => z.cps.toList) h
    simpa using q
  · intro h
    rw [h]
theorem S_cps (l : List Nat) : (S l).cps.toList = l := by simp
theorem S_of (z : Str) : S z.cps.toList = z := by
  cases z
  simp [S]
theorem S_cut (l : List Nat) (lo hi : Option Int) : cutS (S l) lo hi = S ((l.drop (HT.sIx l.length 0 lo)).take (HT.sIx l.length l.length hi - HT.sIx l.length 0 lo)) := by
  unfold cutS
  rw [S_len, S_cps]
/-! ### constants of the module -/
section
variable {X : Cx}
theorem pe_globs {x z : Str} {pos : Pos} (hg : Gl X x) (hm : ∃ t, X.mg x = some (.str z t)) (hd : (x == ("__debug__" : Str)) = false := by decide) : PE X (.Name x pos) (tC (.str z)) := by
  obtain ⟨t, hm⟩ := hm
  exact pe_glob hg hm ⟨t, rfl⟩ hd
theorem pe_globi {x : Str} {i : Int} {pos : Pos} (hg : Gl X x) (hm : ∃ t, X.mg x = some (.int i t)) (hd : (x == ("__debug__" : Str)) = false := by decide) : PE X (.Name x pos) (tC (.int i)) := by
  obtain ⟨t, hm⟩ := hm
  exact pe_glob hg hm ⟨t, rfl⟩ hd
end
/-! ### what is frozen within what is tracked: F ⊆ H, F never changes but grows -/
structure Ext (F H F' H' : Hp) : Prop where
  hh : Same H H'
  ff : Same F F'
  fh : Same F' H'
  nf : ∀ b, H b ≠ none → F b = none → F' b = none
theorem Ext.refl {F H : Hp} (s : Same F H) : Ext F H F H := ⟨Same.refl _, Same.refl _, s, fun _ _ h => h⟩
theorem Ext.trans {F H F1 H1 F2 H2 : Hp} (a : Ext F H F1 H1) (b : Ext F1 H1 F2 H2) : Ext F H F2 H2 :=
  ⟨a.hh.trans b.hh, a.ff.trans b.ff, b.fh, fun c hc hf => by
    refine b.nf c ?_ (a.nf c hc hf)
    cases q : H c with
    | none => exact absurd q hc
    | some o => rw [a.hh c o q]; simp⟩
/-- a new frozen object -/
theorem Ext.newF {F H F1 H1 : Hp} {p : Addr} {o : HO} (e : Ext F H F1 H1) (hp : H1 p = none) : Ext F H (upd F1 p o) (upd H1 p o) where
  hh := fun b u q => by rw [upd_ne (ne_of_none (e.hh b u q) hp)]; exact e.hh b u q
  ff := fun b u q => by rw [upd_ne (ne_of_none (e.fh b u (e.ff b u q)) hp)]; exact e.ff b u q
  fh := fun b u q => by
    by_cases hb : b = p
    · subst hb; rw [upd_same] at q ⊢; exact q
    · rw [upd_ne hb] at q ⊢; exact e.fh b u q
  nf := fun b hb hf => by
    have hbp : b ≠ p := by
      rintro rfl
      cases q : H b with
      | none => exact hb q
      | some u => rw [e.hh b u q] at hp; cases hp
    rw [upd_ne hbp]; exact e.nf b hb hf
/-- a new object that may change -/
theorem Ext.newM {F H F1 H1 : Hp} {p : Addr} {o : HO} (e : Ext F H F1 H1) (hp : H1 p = none) : Ext F H F1 (upd H1 p o) where
  hh := fun b u q => by rw [upd_ne (ne_of_none (e.hh b u q) hp)]; exact e.hh b u q
  ff := e.ff
  fh := fun b u q => by rw [upd_ne (ne_of_none (e.fh b u q) hp)]; exact e.fh b u q
  nf := e.nf
/-- a change of an object that is neither frozen nor elder -/
theorem Ext.set {F H F1 H1 : Hp} {p : Addr} {o : HO} (e : Ext F H F1 H1) (hp : H p = none) (hf : F1 p = none) : Ext F H F1 (upd H1 p o) where
  hh := fun b u q => by rw [upd_ne (ne_of_none q hp)]; exact e.hh b u q
  ff := e.ff
  fh := fun b u q => by rw [upd_ne (ne_of_none q hf)]; exact e.fh b u q
  nf := e.nf
/-- a new object is frozen -/
theorem Ext.frz {F H F1 H1 : Hp} {p : Addr} {o : HO} (e : Ext F H F1 H1) (hp : H p = none) (h1 : H1 p = some o) (hf : F1 p = none) : Ext F H (upd F1 p o) H1 where
  hh := e.hh
  ff := fun b u q => by rw [upd_ne (ne_of_none (e.ff b u q) hf)]; exact e.ff b u q
  fh := fun b u q => by
    by_cases hb : b = p
    · subst hb; rw [upd_same] at q; cases q; exact h1
    · rw [upd_ne hb] at q; exact e.fh b u q
  nf := fun b hb hfb => by
    have hbp : b ≠ p := by
      rintro rfl
      exact hb hp
    rw [upd_ne hbp]; exact e.nf b hb hfb
theorem Ext.free {F H F1 H1 : Hp} {p : Addr} (e : Ext F H F1 H1) (hp : H1 p = none) : H p = none := e.hh.free hp
theorem Ext.freeF {F H F1 H1 : Hp} {p : Addr} (e : Ext F H F1 H1) (hp : H1 p = none) : F1 p = none := e.fh.free hp
theorem Ext.sm {F H F1 H1 : Hp} (e : Ext F H F1 H1) : Same F H1 := e.ff.trans e.fh
theorem same_newF {F H : Hp} {p : Addr} {o : HO} (s : Same F H) (hp : H p = none) : Same F (upd F p o) := fun b u q => by rw [upd_ne (ne_of_none (s b u q) hp)]; exact q
/-! ### relations: which value bears which datum, over the frozen part -/
abbrev Rl (α : Type) := Hp → V → α → Prop
class Mono {α : Type} (r : Rl α) : Prop where
  mono : ∀ {F F' : Hp} {v : V} {x : α}, Same F F' → r F v x → r F' v x
def rI : Rl Int := fun _ v x => v = .int x
def rS : Rl (List Nat) := fun _ v x => v = .str (S x)
def rB : Rl Bool := fun _ v x => v = .bl x
def rO {α : Type} (r : Rl α) : Rl (Option α) := fun F v x => match x with
  | none => v = .non
  | some y => r F v y
abbrev Al {α : Type} (r : Rl α) (F : Hp) : List V → List α → Prop := Paired (fun v x => r F v x)
def rL {α : Type} (r : Rl α) : Rl (List α) := fun F v xs => ∃ a vs, v = .ref a ∧ F a = some (.lst vs) ∧ Al r F vs xs
def rP {α β : Type} (r : Rl α) (s : Rl β) : Rl (α × β) := fun F v x => ∃ a u w, v = .ref a ∧ F a = some (.tup [u, w]) ∧ r F u x.1 ∧ s F w x.2
def rT {α β γ : Type} (r : Rl α) (s : Rl β) (t : Rl γ) : Rl (Tri α β γ) := fun F v x => ∃ a u w z, v = .ref a ∧ F a = some (.tup [u, w, z]) ∧ r F u x.a ∧ s F w x.b ∧ t F z x.c
instance : Mono rI := ⟨fun _ h => h⟩
instance : Mono rS := ⟨fun _ h => h⟩
instance : Mono rB := ⟨fun _ h => h⟩
instance {α : Type} {r : Rl α} [Mono r] : Mono (rO r) := ⟨fun {F F' v x} s h => by
  cases x with
  | none => exact h
  | some y => exact Mono.mono (r := r) s h⟩
theorem Al.mono {α : Type} {r : Rl α} [Mono r] {F F' : Hp} (s : Same F F') : ∀ {vs : List V} {xs : List α}, Al r F vs xs → Al r F' vs xs
  | _, _, .nil => .nil
  | _, _, .cons h t => .cons (Mono.mono s h) (Al.mono s t)
instance {α : Type} {r : Rl α} [Mono r] : Mono (rL r) := ⟨fun s h => by
  obtain ⟨a, vs, e, h1, h2⟩ := h
  exact ⟨a, vs, e, s _ _ h1, Al.mono s h2⟩⟩
instance {α β : Type} {r : Rl α} {t : Rl β} [Mono r] [Mono t] : Mono (rP r t) := ⟨fun s h => by
  obtain ⟨a, u, w, e, h1, h2, h3⟩ := h
  exact ⟨a, u, w, e, s _ _ h1, Mono.mono s h2, Mono.mono s h3⟩⟩
instance {α β γ : Type} {r : Rl α} {t : Rl β} {q : Rl γ} [Mono r] [Mono t] [Mono q] : Mono (rT r t q) := ⟨fun s h => by
  obtain ⟨a, u, w, z, e, h1, h2, h3, h4⟩ := h
  exact ⟨a, u, w, z, e, s _ _ h1, Mono.mono s h2, Mono.mono s h3, Mono.mono s h4⟩⟩
theorem Al.len {α : Type} {r : Rl α} {F : Hp} {vs : List V} {xs : List α} (h : Al r F vs xs) : vs.length = xs.length := Paired.length h
theorem Al.get {α : Type} {r : Rl α} {F : Hp} : ∀ {vs : List V} {xs : List α} {i : Nat} {v : V}, Al r F vs xs → vs[i]? = some v → ∃ x, xs[i]? = some x ∧ r F v x
  | _, _, i, _, .nil, e => by simp at e
  | _, _, 0, _, .cons h _, e => by simp at e; subst e; exact ⟨_, rfl, h⟩
  | _, _, i + 1, _, .cons _ t, e => by
    obtain ⟨x, h1, h2⟩ := Al.get (i := i) t (by simpa using e)
    exact ⟨x, by simpa using h1, h2⟩
theorem Al.get' {α : Type} {r : Rl α} {F : Hp} : ∀ {vs : List V} {xs : List α} {i : Nat} {x : α}, Al r F vs xs → xs[i]? = some x → ∃ v, vs[i]? = some v ∧ r F v x
  | _, _, i, _, .nil, e => by simp at e
  | _, _, 0, _, .cons h _, e => by simp at e; subst e; exact ⟨_, rfl, h⟩
  | _, _, i + 1, _, .cons _ t, e => by
    obtain ⟨x, h1, h2⟩ := Al.get' (i := i) t (by simpa using e)
    exact ⟨x, by simpa using h1, h2⟩
theorem Al.app {α : Type} {r : Rl α} {F : Hp} : ∀ {vs ws : List V} {xs ys : List α}, Al r F vs xs → Al r F ws ys → Al r F (vs ++ ws) (xs ++ ys)
  | _, _, _, _, .nil, s => s
  | _, _, _, _, .cons h t, s => .cons h (Al.app t s)
theorem Al.snoc {α : Type} {r : Rl α} {F : Hp} {vs : List V} {xs : List α} {v : V} {x : α} (h : Al r F vs xs) (q : r F v x) : Al r F (vs ++ [v]) (xs ++ [x]) := h.app (.cons q .nil)
theorem Al.ints {F : Hp} : ∀ {vs : List V} {xs : List Int}, Al rI F vs xs → vs = xs.map V.int
  | _, _, .nil => rfl
  | _, _, .cons h t => by rw [Al.ints t, show _ = _ from h]; rfl
theorem Al.of_ints {F : Hp} : ∀ (xs : List Int), Al rI F (xs.map V.int) xs
  | [] => .nil
  | _ :: r => .cons rfl (Al.of_ints r)
theorem Al.strs {F : Hp} : ∀ {vs : List V} {xs : List (List Nat)}, Al rS F vs xs → vs = xs.map fun l => V.str (S l)
  | _, _, .nil => rfl
  | _, _, .cons h t => by rw [Al.strs t, show _ = _ from h]; rfl
theorem Al.of_strs {F : Hp} : ∀ (xs : List (List Nat)), Al rS F (xs.map fun l => V.str (S l)) xs
  | [] => .nil
  | _ :: r => .cons rfl (Al.of_strs r)
theorem Al.bls {F : Hp} : ∀ {vs : List V} {xs : List Bool}, Al rB F vs xs → vs = xs.map V.bl
  | _, _, .nil => rfl
  | _, _, .cons h t => by rw [Al.bls t, show _ = _ from h]; rfl
theorem Al.of_bls {F : Hp} : ∀ (xs : List Bool), Al rB F (xs.map V.bl) xs
  | [] => .nil
  | _ :: r => .cons rfl (Al.of_bls r)
theorem take_more {α : Type} : ∀ {l : List α} {i : Nat} {x : α}, l[i]? = some x → l.take (i + 1) = l.take i ++ [x]
  | [], i, x, h => by simp at h
  | a :: l, 0, x, h => by
    have e : a = x := Option.some.inj h
    subst e
    rfl
  | a :: l, i + 1, x, h => by
    have ih := take_more (l := l) (i := i) (x := x) h
    show a :: l.take (i + 1) = a :: l.take i ++ [x]
    rw [ih]
    rfl
theorem sl64 : sizeLine = 16777216 := sizeLine_eq
/-! ### promises of defs without side effects: from data to a datum -/
def Pu1 {α β : Type} (ra : Rl α) (pre : α → Prop) (rb : Rl β) (f : α → β) : Sp := fun vs H Q _ => ∃ F v0 x, vs = [v0] ∧ Same F H ∧ ra F v0 x ∧ pre x ∧ ∀ v F' H', Ext F H F' H' → rb F' v (f x) → Q v H'
def Pu2 {α α2 β : Type} (ra : Rl α) (ra2 : Rl α2) (pre : α → α2 → Prop) (rb : Rl β) (f : α → α2 → β) : Sp := fun vs H Q _ =>
  ∃ F v0 v1 x y, vs = [v0, v1] ∧ Same F H ∧ ra F v0 x ∧ ra2 F v1 y ∧ pre x y ∧ ∀ v F' H', Ext F H F' H' → rb F' v (f x y) → Q v H'
def Pu3 {α α2 α3 β : Type} (ra : Rl α) (ra2 : Rl α2) (ra3 : Rl α3) (pre : α → α2 → α3 → Prop) (rb : Rl β) (f : α → α2 → α3 → β) : Sp := fun vs H Q _ =>
  ∃ F v0 v1 v2 x y z, vs = [v0, v1, v2] ∧ Same F H ∧ ra F v0 x ∧ ra2 F v1 y ∧ ra3 F v2 z ∧ pre x y z ∧ ∀ v F' H', Ext F H F' H' → rb F' v (f x y z) → Q v H'
theorem S_get {l : List Nat} {i : Nat} {c : Nat} (h : (S l).cps[i]? = some c) : l[i]? = some c := by simpa using h
theorem S_size (l : List Nat) : (S l).cps.size = l.length := by simp
theorem map_more {α β : Type} {f : α → β} {l : List α} {i : Nat} {x : α} (h : l[i]? = some x) : (l.take (i + 1)).map f = (l.take i).map f ++ [f x] := by rw [take_more h, List.map_append]; rfl
theorem filter_yes {α : Type} {p : α → Bool} {l : List α} {i : Nat} {x : α} (h : l[i]? = some x) (q : p x = true) : (l.take (i + 1)).filter p = (l.take i).filter p ++ [x] := by rw [take_more h, List.filter_append]; simp [q]
theorem filter_no {α : Type} {p : α → Bool} {l : List α} {i : Nat} {x : α} (h : l[i]? = some x) (q : p x = false) : (l.take (i + 1)).filter p = (l.take i).filter p := by rw [take_more h, List.filter_append]; simp [q]
/-! ### comprehensions: the new list at D holds what is made so far -/
def LcI {β : Type} (r : Rl β) (F H1 : Hp) (D : Addr) (out : Nat → List β) : Nat → Hp → Prop := fun i H => ∃ F' ws, Ext F H1 F' H ∧ F' D = none ∧ H D = some (.lst ws) ∧ Al r F' ws (out i)
theorem LcI.start {β : Type} {r : Rl β} {F H1 : Hp} {D : Addr} {out : Nat → List β} (s : Same F H1) (hD : H1 D = none) (h0 : out 0 = []) : LcI r F H1 D out 0 (upd H1 D (.lst [])) :=
  ⟨F, [], (Ext.refl s).newM hD, s.free hD, upd_same, by rw [h0]; exact .nil⟩
theorem LcI.yes {β : Type} {r : Rl β} [Mono r] {F H1 F' H' F4 H4 : Hp} {D : Addr} {out : Nat → List β} {i : Nat} {ws : List V} {y : V} (d : β) (hD1 : H1 D = none) (e : Ext F H1 F' H') (fD : F' D = none) (hD : H' D = some (.lst ws)) (al : Al r F' ws (out i))
    (e4 : Ext F' H' F4 H4) (q : r F4 y d) (ho : out (i + 1) = out i ++ [d]) (hz : (out i).length < sizeLine) : ∃ acc, H4 D = some (.lst acc) ∧ acc.length < sizeLine ∧ LcI r F H1 D out (i + 1) (upd H4 D (.lst (acc ++ [y]))) := by
  have f4 : F4 D = none := e4.nf D (by rw [hD]; simp) fD
  refine ⟨ws, e4.hh _ _ hD, by rw [al.len]; exact hz, F4, ws ++ [y], (e.trans e4).set hD1 f4, f4, upd_same, ?_⟩
  rw [ho]
  exact (al.mono e4.ff).snoc q
theorem LcI.no {β : Type} {r : Rl β} [Mono r] {F H1 F' H' F4 H4 : Hp} {D : Addr} {out : Nat → List β} {i : Nat} {ws : List V} (e : Ext F H1 F' H') (fD : F' D = none) (hD : H' D = some (.lst ws)) (al : Al r F' ws (out i))
    (e4 : Ext F' H' F4 H4) (ho : out (i + 1) = out i) : LcI r F H1 D out (i + 1) H4 :=
  ⟨F4, ws, e.trans e4, e4.nf D (by rw [hD]; simp) fD, e4.hh _ _ hD, by rw [ho]; exact al.mono e4.ff⟩
/-- the made list, frozen -/
theorem LcI.frz {β : Type} {r : Rl β} [Mono r] {F H1 H' : Hp} {D : Addr} {out : Nat → List β} {n : Nat} (h : LcI r F H1 D out n H') (hD1 : H1 D = none) : ∃ F' vs, Ext F H1 F' H' ∧ F' D = some (.lst vs) ∧ Al r F' vs (out n) := by
  obtain ⟨F', ws, e, fD, hD, al⟩ := h
  exact ⟨_, ws, e.frz hD1 hD fD, upd_same, al.mono (fun b u q => by rw [upd_ne (ne_of_none q fD)]; exact q)⟩
/-! ### dicts -/
section
variable {κ κ' α : Type} [DecidableEq κ] [DecidableEq κ']
def AD (enc : κ → κ') (r : Rl α) (F : Hp) : List (κ' × V) → List (κ × α) → Prop := Paired fun kv x => kv.1 = enc x.1 ∧ r F kv.2 x.2
theorem AD.mono {enc : κ → κ'} {r : Rl α} [Mono r] {F F' : Hp} (s : Same F F') : ∀ {kvs : List (κ' × V)} {m : List (κ × α)}, AD enc r F kvs m → AD enc r F' kvs m
  | _, _, .nil => .nil
  | _, _, .cons h t => .cons ⟨h.1, Mono.mono s h.2⟩ (AD.mono s t)
theorem AD.len {enc : κ → κ'} {r : Rl α} {F : Hp} {kvs : List (κ' × V)} {m : List (κ × α)} (h : AD enc r F kvs m) : kvs.length = m.length := Paired.length h
theorem AD.get {enc : κ → κ'} (inj : ∀ a b, enc a = enc b → a = b) {r : Rl α} {F : Hp} (k : κ) : ∀ {kvs : List (κ' × V)} {m : List (κ × α)}, AD enc r F kvs m →
    (aGet m k = none ∧ valV kvs (enc k) = none) ∨ ∃ x v, aGet m k = some x ∧ valV kvs (enc k) = some v ∧ r F v x
  | _, _, .nil => .inl ⟨rfl, rfl⟩
  | _, _, .cons (a := kv) (b := x) h t => by
    rw [aGet_cons]
    by_cases e : x.1 = k
    · rw [if_pos e]
      exact .inr ⟨x.2, kv.2, rfl, valV_pos (by rw [h.1, e]), h.2⟩
    · rw [if_neg e, valV_neg (fun z => e (inj _ _ (h.1.symm.trans z)))]
      exact AD.get inj k t
theorem AD.put {enc : κ → κ'} (inj : ∀ a b, enc a = enc b → a = b) {r : Rl α} {F : Hp} {k : κ} {v : V} {x : α} (q : r F v x) {kvs : List (κ' × V)} {m : List (κ × α)} (h : AD enc r F kvs m) : AD enc r F (putK kvs (enc k) v) (aPut m k x) := by
  unfold putK aPut
  have e : (kvs.any fun kv => decide (kv.1 = enc k)) = m.any fun p => decide (p.1 = k) := by
    rw [valV_any, aGet_any]
    rcases AD.get inj k h with ⟨h1, h2⟩ | ⟨y, u, h1, h2, _⟩
    · rw [h1, h2]; rfl
    · rw [h1, h2]; rfl
  rw [e]
  split
  · have key : ∀ {kvs : List (κ' × V)} {m : List (κ × α)}, AD enc r F kvs m → AD enc r F (kvs.map fun kv => if kv.1 = enc k then (kv.1, v) else kv) (m.map fun p => if p.1 = k then (p.1, x) else p) := by
      intro kvs m h
      induction h with
      | nil => exact .nil
      | cons h t ih =>
        refine .cons ?_ ih
        rename_i kv y _ _
        dsimp only
        by_cases z : y.1 = k
        · rw [if_pos z, if_pos (by rw [h.1, z])]
          exact ⟨h.1, q⟩
        · rw [if_neg z, if_neg (fun w => z (inj _ _ (h.1.symm.trans w)))]
          exact h
    exact key h
  · have key : ∀ {kvs : List (κ' × V)} {m : List (κ × α)}, AD enc r F kvs m → AD enc r F (kvs ++ [(enc k, v)]) (m ++ [(k, x)]) := by
      intro kvs m h
      induction h with
      | nil => exact .cons ⟨rfl, q⟩ .nil
      | cons h t ih => exact .cons h ih
    exact key h
end
def encN (c : Nat) : Key := Sum.inr (S [c])
theorem encN_inj (a b : Nat) (h : encN a = encN b) : a = b := by
  have := S_inj.mp (Sum.inr.inj h)
  simpa using this
def rNat : Rl Nat := fun _ v x => v = .int (x : Int)
/-- a name: a text of one letter -/
def rC : Rl Nat := fun _ v c => v = .str (S [c])
instance : Mono rNat := ⟨fun _ h => h⟩
instance : Mono rC := ⟨fun _ h => h⟩
def rD {κ α : Type} [DecidableEq κ] (enc : κ → Key) (r : Rl α) : Rl (List (κ × α)) := fun F v m => ∃ a kvs, v = .ref a ∧ F a = some (.dK kvs) ∧ AD enc r F kvs m
instance {κ α : Type} [DecidableEq κ] {enc : κ → Key} {r : Rl α} [Mono r] : Mono (rD enc r) := ⟨fun s h => by
  obtain ⟨a, kvs, e, h1, h2⟩ := h
  exact ⟨a, kvs, e, s _ _ h1, h2.mono s⟩⟩
abbrev rRule : Rl Rule := rP rC rS
theorem Al.nats {F : Hp} : ∀ {vs : List V} {xs : List Nat}, Al rNat F vs xs → vs = (xs.map fun (x : Nat) => (x : Int)).map V.int
  | _, _, .nil => rfl
  | _, _, .cons h t => by rw [Al.nats t, show _ = _ from h]; rfl
theorem Al.cs {F : Hp} : ∀ {vs : List V} {xs : List Nat}, Al rC F vs xs → vs = xs.map fun c => V.str (S [c])
  | _, _, .nil => rfl
  | _, _, .cons h t => by rw [Al.cs t, show _ = _ from h]; rfl
theorem foldl_more {α β : Type} {f : β → α → β} {b : β} {l : List α} {i : Nat} {x : α} (h : l[i]? = some x) : (l.take (i + 1)).foldl f b = f ((l.take i).foldl f b) x := by rw [take_more h, List.foldl_append]; rfl
theorem inV_non : ∀ {vs : List V}, (∀ v ∈ vs, v = .non ∨ ∃ i, v = .int i) → vs.all flatV = true ∧ inV .non vs = vs.any (fun v => decide (v = .non))
  | [], _ => ⟨rfl, rfl⟩
  | v :: r, h => by
    obtain ⟨h1, h2⟩ := inV_non (vs := r) fun x hx => h x (List.mem_cons_of_mem _ hx)
    unfold inV at h2 ⊢
    rw [List.all_cons, List.any_cons, List.any_cons, h1, h2]
    rcases h v List.mem_cons_self with rfl | ⟨i, rfl⟩
    · exact ⟨rfl, rfl⟩
    · exact ⟨rfl, rfl⟩
/-- a rule of a list of rules -/
theorem rule_at {F : Hp} {vs : List V} {rules : List Rule} {i : Nat} {v : V} (al : Al rRule F vs rules) (h : vs[i]? = some v) :
    ∃ r t, rules[i]? = some r ∧ v = .ref t ∧ F t = some (.tup [.str (S [r.1]), .str (S r.2)]) := by
  obtain ⟨r, hr, t, u, w, e1, e2, e3, e4⟩ := al.get h
  rw [show u = _ from e3, show w = _ from e4] at e2
  exact ⟨r, t, hr, e1, e2⟩
theorem Al.opts {F : Hp} : ∀ {vs : List V} {os : List (Option Nat)}, Al (rO rNat) F vs os →
    vs.all flatV = true ∧ inV .non vs = !(os.all fun o => o.isSome) ∧ ((os.all fun o => o.isSome) = true → vs = (os.map fun o => ((o.getD 0 : Nat) : Int)).map V.int)
  | _, _, .nil => ⟨rfl, rfl, fun _ => rfl⟩
  | _, _, .cons (b := o) h t => by
    obtain ⟨h1, h2, h3⟩ := Al.opts t
    unfold inV at h2 ⊢
    rw [List.all_cons, List.any_cons, List.all_cons, h1, h2]
    cases o with
    | none =>
      have e : _ = V.non := h
      subst e
      exact ⟨rfl, rfl, fun z => by simp at z⟩
    | some x =>
      have e : _ = V.int (x : Int) := h
      subst e
      refine ⟨rfl, by simp [eqV], fun z => ?_⟩
      rw [List.map_cons, List.map_cons, ← h3 (by simpa using z)]
      rfl
theorem sum_ints : ∀ l : List Nat, (l.map fun (x : Nat) => (x : Int)).sum = ((l.sum : Nat) : Int)
  | [] => rfl
  | a :: l => by rw [List.map_cons, List.sum_cons, List.sum_cons, sum_ints l]; omega
theorem dec_ii {i j : Int} : decide (V.int i = V.int j) = decide (i = j) := by
  by_cases h : i = j
  · rw [decide_eq_true h, h]; simp
  · rw [decide_eq_false h]; simp [h]
theorem dec_ss {a b : List Nat} : decide (V.str (S a) = V.str (S b)) = decide (a = b) := by
  by_cases h : a = b
  · subst h; simp
  · rw [decide_eq_false h, decide_eq_false]
    intro e
    injection e with e
    exact h (S_inj.mp e)
theorem dec_cc {a b : Nat} : decide (V.str (S [a]) = V.str (S [b])) = decide (a = b) := by
  rw [dec_ss]
  by_cases h : a = b
  · subst h; simp
  · simp [h]
abbrev vc (c : Nat) : V := .str (S [c])
abbrev vn (n : Nat) : V := .int (n : Int)
theorem inV_cs (c : Nat) : ∀ l : List Nat, (l.map vc).all flatV = true ∧ inV (vc c) (l.map vc) = decide (c ∈ l)
  | [] => ⟨rfl, rfl⟩
  | x :: l => by
    obtain ⟨h1, h2⟩ := inV_cs c l
    unfold inV at h2 ⊢
    rw [List.map_cons, List.all_cons, List.any_cons, h1, h2]
    refine ⟨rfl, ?_⟩
    have e : eqV (vc x) (vc c) = decide (x = c) := by
      show (S [x] == S [c]) = _
      by_cases h : x = c
      · subst h; simp
      · rw [decide_eq_false h, beq_eq_false_iff_ne]
        intro e
        exact h (by simpa using S_inj.mp e)
    rw [e]
    by_cases h : x = c
    · subst h; simp
    · have h' : ¬ c = x := fun z => h z.symm
      simp [h, h']
theorem map_get {α : Type} {f : α → V} {l : List α} {i : Nat} {v : V} (h : (l.map f)[i]? = some v) : ∃ x, l[i]? = some x ∧ v = f x := by
  rw [List.getElem?_map] at h
  cases q : l[i]? with
  | none => rw [q] at h; cases h
  | some x => rw [q] at h; exact ⟨x, rfl, (Option.some.inj h).symm⟩
theorem map_get' {α : Type} {f : α → V} {l : List α} {i : Nat} {x : α} (h : l[i]? = some x) : (l.map f)[i]? = some (f x) := by rw [List.getElem?_map, h]; rfl
/-! ### the rules with the written part by its own name -/
section
variable {X : Cx} {K : PySem.W.Frag}
theorem ix_listK (h : X.K = K := by rfl) : IxR X (rIxL K) := by subst h; exact ix_list
theorem ix_tupK (h : X.K = K := by rfl) : IxR X (rIxT K) := by subst h; exact ix_tup
theorem sl_listK (h : X.K = K := by rfl) : SlR X (rSlL K) := by subst h; exact sl_list
theorem sl_tupK (h : X.K = K := by rfl) : SlR X (rSlT K) := by subst h; exact sl_tup
theorem op_ltTK (hu : X.A.units < cLine) (h : X.K = K := by rfl) : OpR X (compareOp .Lt) (rLtT K) := by subst h; exact op_ltT hu
theorem op_catTK (h : X.K = K := by rfl) : OpR X (binaryOp .Add) (rCatT K) := by subst h; exact op_catT
theorem op_inK (h : X.K = K := by rfl) : OpR X (compareOp .In) (rIn K false) := by subst h; exact op_in_seq
theorem op_notInK (h : X.K = K := by rfl) : OpR X (compareOp .NotIn) (rIn K true) := by subst h; exact op_notIn_seq
def rLen (K : PySem.W.Frag) : List V → Hp → VK → Prop := fun xs H Q => ∃ p ys, xs = [.ref p] ∧ (SqL K H p ys ∨ SqT K H p ys) ∧ Q (.int ys.length) H
theorem call_lenK (h : X.K = K := by rfl) : CallR X (.builtin "len") (rLen K) := by subst h; exact call_len_seq
def rListOf (K : PySem.W.Frag) : List V → Hp → VK → Prop := fun xs H Q => ∃ p ys, xs = [.ref p] ∧ (SqL K H p ys ∨ SqT K H p ys) ∧ ∀ l, H l = none → Q (.ref l) (upd H l (.lst ys))
theorem call_listK (h : X.K = K := by rfl) : CallR X (.type "list") (rListOf K) := by subst h; exact call_list_of
theorem cr_sumK (hc : X.calm = true) (h : X.K = K := by rfl) : CallR X (.builtin "sum") (rSum K) := by subst h; exact cr_sum hc
theorem cr_maxK (hc : X.calm = true) (h : X.K = K := by rfl) : CallR X (.builtin "max") (rMax K) := by subst h; exact cr_max hc
theorem cr_minK (hc : X.calm = true) (h : X.K = K := by rfl) : CallR X (.builtin "min") (rMin K) := by subst h; exact cr_min hc
theorem cr_allK (hc : X.calm = true) (h : X.K = K := by rfl) : CallR X (.builtin "all") (rAll K) := by subst h; exact cr_all hc
theorem cr_anyK (hc : X.calm = true) (h : X.K = K := by rfl) : CallR X (.builtin "any") (rAny K) := by subst h; exact cr_any hc
theorem cr_sortedSK (h : X.K = K := by rfl) : CallR X (.builtin "sorted") (rSortedS K) := by subst h; exact cr_sortedS
theorem op_eqDK (hu : X.A.units + 64 < cLine) (h : X.K = K := by rfl) : OpR X (compareOp .Eq) (rEqD K) := by subst h; exact op_eqD hu
theorem op_neDK (hu : X.A.units + 64 < cLine) (h : X.K = K := by rfl) : OpR X (compareOp .NotEq) (rNeD K) := by subst h; exact op_neD hu
theorem pi_listK {tg l : Expr} {tl : TE} (hl : PE X l tl) (h : X.K = K := by rfl) : PI X tg l (iList K tl) := by subst h; exact pi_list hl
theorem pi_tupK {tg l : Expr} {tl : TE} (hl : PE X l tl) (h : X.K = K := by rfl) : PI X tg l (iTup K tl) := by subst h; exact pi_tup hl
theorem pi_enumK {e : Expr} {ta : TA} {p pos tpos : Pos} {elts : List Expr} {kk : Nat} (hg : Gl X "enumerate") (hm : X.mg "enumerate" = none) (ha : PA X [e] ta) (hs : starEach [e] X.env = [(false, eval e X.env)] := by rfl) (h : X.K = K := by rfl) :
    PI X (.Tuple elts kk tpos) (.Call (.Name "enumerate" p) [e] [] pos) (iEnum K ta) := by subst h; exact pi_enum hg hm ha hs
theorem pg_tupK {es : List Expr} {k : Nat} {t : TGs} {n : Nat} {pos : Pos} (hc : X.calm = true) (ht : PGs X es t) (hn : (assignEach es X.env).length = n := by rfl) (hst : (assignEach es X.env).findIdx? (·.1) = none := by rfl) (h : X.K = K := by rfl) :
    PG X (.Tuple es k pos) (gTup K n t) := by subst h; exact pg_tup hc ht hn hst
theorem pe_fldK {e : Expr} {ta : TE} {f : Str} {pos : Pos} (he : PE X e ta) (hb : attributeBase e f X.env (eval e X.env) = eval e X.env := by rfl) (h : X.K = K := by rfl) : PE X (.Attribute e f pos) (tFld K ta f) := by subst h; exact pe_fld he hb
theorem pe_conK {e : Expr} {ta : TE} {f : Str} {pos : Pos} (he : PE X e ta) (hb : attributeBase e f X.env (eval e X.env) = eval e X.env := by rfl) (h : X.K = K := by rfl) : PE X (.Attribute e f pos) (tCon K ta f) := by subst h; exact pe_con he hb
theorem ps_fldK {o value : Expr} {f : Str} {pos pos' : Pos} {ta tv : TE} (ha : PE X o ta) (hv : PE X value tv) (hs : swapsWith value (some (.Attribute o f pos')) pos.line X.env = pure false := by rfl) (h : X.K = K := by rfl) :
    PS X (.Assign [.Attribute o f pos'] value pos) (sFld K ta tv f) := by subst h; exact ps_fld ha hv hs
theorem pe_revLK {e : Expr} {te : TE} {k : Nat} {p1 p2 p3 pos : Pos} (he : PE X e te) (h : X.K = K := by rfl) : PE X (.Subscript e (.Slice none none (some (.UnaryOp .USub (.Constant (.int 1) k p1) p2)) p3) pos) (tRevL K te) := by subst h; exact pe_revL he
theorem pe_bmK {o e : Expr} {es : List Expr} {to : TE} {t : TA} {name : Str} {apos cpos : Pos} {T id : String} {r : V → List V → Hp → VK → Prop}
    (pa : PlainAttrs T) (slot : Slot T name id) (hty : typeOf (.builtin id) = pure (.type "method_descriptor")) (hm : MtR X id r) (ho : PE X o to) (ha : PA X (e :: es) t)
    (hbase : attributeBase o name X.env (eval o X.env) = eval o X.env := by rfl) (hline : (apos.endLine == cpos.line) = true := by rfl) (hs : starEach (e :: es) X.env = (false, eval e X.env) :: starEach es X.env := by rfl) (hplain : (backTo cpos (starEach es X.env)).any (·.1) = false := by rfl)
    (hfew : ((backTo cpos (starEach (e :: es) X.env)).all (fun x => !x.1) && (backToKw cpos (keywordEach [] X.env)).all (fun x => x.1.isSome)
      && decide ((e :: es).length + ([] : List Keyword).length + (if ([] : List Keyword).isEmpty then 0 else 1) < 30)) = true := by rfl) (h : X.K = K := by rfl) :
    PE X (.Call (.Attribute o name apos) (e :: es) [] cpos) (tBM K T r to t) := by subst h; exact pe_bm pa slot hty hm ho ha hbase hfew hline hs hplain
def rJoin (K : PySem.W.Frag) : V → List V → Hp → VK → Prop := fun x xs H Q => ∃ a p, ∃ ys : List Str, x = .str a ∧ xs = [.ref p] ∧ (SqL K H p (ys.map V.str) ∨ SqT K H p (ys.map V.str)) ∧
      (ys.map (·.length)).sum + ys.length * a.length ≤ 16777216 ∧ Q (.str (Txt.join a ys)) H
theorem pe_joinK {o e : Expr} {to te : TE} {apos pos : Pos} (ho : PE X o to) (he : PE X e te) (hs : starEach [e] X.env = [(false, eval e X.env)] := by rfl) (hbase : attributeBase o "join" X.env (eval o X.env) = eval o X.env := by rfl) (hline : (apos.endLine == pos.line) = true := by rfl) (h : X.K = K := by rfl) :
    PE X (.Call (.Attribute o "join" apos) [e] [] pos) (tM1 (rJoin K) to te) := by subst h; exact pe_join ho he hs hbase hline
theorem pe_bm0K {o : Expr} {to : TE} {name : Str} {apos cpos : Pos} {T id : String} {r : V → List V → Hp → VK → Prop}
    (pa : PlainAttrs T) (slot : Slot T name id) (hty : typeOf (.builtin id) = pure (.type "method_descriptor")) (hm : MtR X id r) (ho : PE X o to)
    (hbase : attributeBase o name X.env (eval o X.env) = eval o X.env := by rfl) (hline : (apos.endLine == cpos.line) = true := by rfl) (h : X.K = K := by rfl) : PE X (.Call (.Attribute o name apos) [] [] cpos) (tBM0 K T r to) := by subst h; exact pe_bm0 pa slot hty hm ho hbase hline
end
end SF
namespace SF
abbrev Best := List (Nat × Tri Nat (List Nat) Nat)
def bS (best : Best) (c : Nat) : Nat := ((aGet best c).map (·.a)).getD 0
def bW (best : Best) (c : Nat) : List Nat := ((aGet best c).map (·.b)).getD []
def ldSteps (best : Best) (b : List Nat) : Nat := 1 + ((namesIn b).map (bS best)).sum
def ldPart (best : Best) (c : Nat) : List Nat := if nam c = true then bW best c else [c]
def ldWord (best : Best) (b : List Nat) : List Nat := (b.map (ldPart best)).flatten
def ldDue (lens : List (Nat × Nat)) (best : Best) (r : Rule) : Bool := decide (total lens r.2 = (aGet lens r.1).getD 0) && allIn best r.2
/-- (steps, word) < (steps, word) -/
def swL (i : Nat) (a : List Nat) (j : Nat) (b : List Nat) : Bool := if i = j then decide (a < b) else decide (i < j)
def ldBetter (best : Best) (r : Rule) : Bool := match aGet best r.1 with
  | none => true
  | some t => swL (ldSteps best r.2) (ldWord best r.2) t.a t.b
def ldStep (rules : List Rule) (lens : List (Nat × Nat)) (st : Best × Bool) (n : Nat) : Best × Bool := match rules[n]? with
  | none => st
  | some r => if ldDue lens st.1 r = true then (if ldBetter st.1 r = true then (aPut st.1 r.1 ⟨ldSteps st.1 r.2, ldWord st.1 r.2, n⟩, true) else st) else st
section
variable {rules : List Rule} {lens : List (Nat × Nat)} {st : Best × Bool} {n : Nat} {r : Rule}
theorem ldStep_no (hr : rules[n]? = some r) (h : ldDue lens st.1 r = false) : ldStep rules lens st n = st := by
  unfold ldStep
  rw [hr]
  dsimp only
  rw [h, if_neg Bool.false_ne_true]
theorem ldStep_no2 (hr : rules[n]? = some r) (h : ldBetter st.1 r = false) : ldStep rules lens st n = st := by
  unfold ldStep
  rw [hr]
  dsimp only
  rw [h, if_neg Bool.false_ne_true]
  split <;> rfl
theorem ldStep_yes (hr : rules[n]? = some r) (h : ldDue lens st.1 r = true) (h2 : ldBetter st.1 r = true) : ldStep rules lens st n = (aPut st.1 r.1 ⟨ldSteps st.1 r.2, ldWord st.1 r.2, n⟩, true) := by
  unfold ldStep
  rw [hr]
  dsimp only
  rw [h, if_pos rfl, h2, if_pos rfl]
end
def ldRound (rules : List Rule) (lens : List (Nat × Nat)) (numbers : List Nat) (m : Best) : Best × Bool := numbers.foldl (ldStep rules lens) (m, false)
def geo : Nat → Nat
  | 0 => 0
  | k + 1 => 1 + 4 * geo k
theorem geo_mono : ∀ {a b : Nat}, a ≤ b → geo a ≤ geo b
  | a, 0, h => by have : a = 0 := by omega
                  subst this; exact Nat.le_refl _
  | a, b + 1, h => by
    rcases Nat.lt_or_ge a (b + 1) with h1 | h1
    · have := geo_mono (a := a) (b := b) (by omega)
      show _ ≤ 1 + 4 * geo b
      omega
    · have : a = b + 1 := by omega
      subst this; exact Nat.le_refl _
/-- the number that a word spells, to the base 128 -/
def val : List Nat → Nat
  | [] => 0
  | c :: l => c * 128 ^ l.length + val l
theorem val_lt : ∀ {l : List Nat}, (∀ c ∈ l, c < 128) → val l < 128 ^ l.length
  | [], _ => by simp [val]
  | c :: l, h => by
    have ih := val_lt (l := l) fun x hx => h x (List.mem_cons_of_mem _ hx)
    have hc := h c List.mem_cons_self
    show c * 128 ^ l.length + val l < 128 ^ (l.length + 1)
    have : (c + 1) * 128 ^ l.length ≤ 128 * 128 ^ l.length := Nat.mul_le_mul_right _ (by omega)
    rw [Nat.pow_succ, Nat.mul_comm (128 ^ l.length)]
    rw [Nat.add_mul] at this
    omega
theorem val_lex : ∀ {a b : List Nat}, a.length = b.length → (∀ c ∈ a, c < 128) → a < b → val a < val b
  | [], [], _, _, h => absurd h (by simp)
  | [], _ :: _, h, _, _ => by simp at h
  | _ :: _, [], h, _, _ => by simp at h
  | x :: a, y :: b, hl, ha, h => by
    have hl' : a.length = b.length := by simpa using hl
    show x * 128 ^ a.length + val a < y * 128 ^ b.length + val b
    rw [← hl']
    rcases List.cons_lt_cons_iff.mp h with h1 | ⟨h1, h2⟩
    · have q := val_lt (l := a) fun c hc => ha c (List.mem_cons_of_mem _ hc)
      have : (x + 1) * 128 ^ a.length ≤ y * 128 ^ a.length := Nat.mul_le_mul_right _ h1
      rw [Nat.add_mul] at this
      omega
    · subst h1
      have ih := val_lex hl' (fun c hc => ha c (List.mem_cons_of_mem _ hc)) h2
      omega
def UN : Nat := 128 ^ 25
def BIGD : Nat := (geo 27 + 1) * UN
def wgt (best : Best) (c : Nat) : Nat := match aGet best c with
  | none => BIGD
  | some t => t.a * UN + val t.b
def muD (best : Best) : Nat := ((List.range 26).map fun i => wgt best (65 + i)).sum
def ldFuel : Nat := muD [] + 1
def leastDerivations (rules : List Rule) (numbers : List Nat) (lens : List (Nat × Nat)) : Best := rounds (ldRound rules lens numbers) ldFuel []
structure LDok (lens : List (Nat × Nat)) (m : Best) : Prop where
  nd : (m.map (·.1)).Nodup
  nm : ∀ c ∈ m.map (·.1), nam c = true
  st : ∀ c t, aGet m c = some t → t.a ≤ geo m.length
  wl : ∀ c t, aGet m c = some t → t.b.length = (aGet lens c).getD 0 ∧ t.b.length ≤ 24
  wc : ∀ c t, aGet m c = some t → ∀ x ∈ t.b, sgn x = true
  hl : ∀ c ∈ m.map (·.1), (aGet lens c).isSome = true
theorem LDok.nil (lens : List (Nat × Nat)) : LDok lens [] := ⟨by simp, by simp, fun c x h => (by cases h), fun c x h => (by cases h), fun c x h => (by cases h), fun c hc => (by cases hc)⟩
section
variable {lens : List (Nat × Nat)} {m : Best} {r : Rule}
theorem LDok.few (h : LDok lens m) : m.length ≤ 26 := by
  have := nam_few h.nd h.nm
  rwa [List.length_map] at this
theorem sgn_lt {c : Nat} (h : sgn c = true) : c < 128 := by
  have : ∀ x ∈ SIGNSl, x < 128 := by decide
  exact this c (by simpa [sgn] using h)
theorem bW_len (h : LDok lens m) {c : Nat} (hc : (aGet m c).isSome = true) : (bW m c).length = (aGet lens c).getD 0 := by
  cases q : aGet m c with
  | none => rw [q] at hc; cases hc
  | some t => unfold bW; rw [q]; exact (h.wl c t q).1
theorem allIn_cons {α : Type} {m : List (Nat × α)} {c : Nat} {b : List Nat} : allIn m (c :: b) = true ↔ (nam c = true → (aGet m c).isSome = true) ∧ allIn m b = true := by
  unfold allIn namesIn
  by_cases h : nam c = true
  · rw [List.filter_cons, if_pos h, List.all_cons, Bool.and_eq_true]
    exact ⟨fun ⟨a, b⟩ => ⟨fun _ => a, b⟩, fun ⟨a, b⟩ => ⟨a h, b⟩⟩
  · rw [List.filter_cons, if_neg h]
    exact ⟨fun a => ⟨fun z => absurd z h, a⟩, fun a => a.2⟩
theorem total_cons {lens : List (Nat × Nat)} {c : Nat} {b : List Nat} : total lens (c :: b) = (if nam c = true then (aGet lens c).getD 0 else 1) + total lens b := by
  unfold total
  have h1 := namesIn_le b
  unfold namesIn at h1 ⊢
  by_cases h : nam c = true
  · rw [List.filter_cons, if_pos h, if_pos h, List.map_cons, List.sum_cons, List.length_cons, List.length_cons]
    omega
  · rw [List.filter_cons, if_neg h, if_neg h, List.length_cons]
    omega
theorem ldWord_len (h : LDok lens m) : ∀ {b : List Nat}, allIn m b = true → (ldWord m b).length = total lens b
  | [], _ => rfl
  | c :: b, hb => by
    obtain ⟨h1, h2⟩ := allIn_cons.mp hb
    have ih := ldWord_len h h2
    show (ldPart m c ++ ldWord m b).length = _
    rw [List.length_append, ih, total_cons]
    unfold ldPart
    by_cases hn : nam c = true
    · rw [if_pos hn, if_pos hn, bW_len h (h1 hn)]
    · rw [if_neg hn, if_neg hn]; rfl
theorem ldWord_sgn (h : LDok lens m) : ∀ {b : List Nat}, (∀ c ∈ b, (sgn c || nam c) = true) → ∀ x ∈ ldWord m b, sgn x = true
  | [], _, x, hx => by cases hx
  | c :: b, hb, x, hx => by
    have hx' : x ∈ ldPart m c ++ ldWord m b := hx
    rcases List.mem_append.mp hx' with z | z
    · unfold ldPart at z
      by_cases hn : nam c = true
      · rw [if_pos hn] at z
        unfold bW at z
        cases q : aGet m c with
        | none => rw [q] at z; cases z
        | some t => rw [q] at z; exact h.wc c t q x z
      · rw [if_neg hn] at z
        simp at z
        subst z
        have := hb x List.mem_cons_self
        rw [Bool.or_eq_true] at this
        exact this.resolve_right hn
    · exact ldWord_sgn h (fun y hy => hb y (List.mem_cons_of_mem _ hy)) x z
theorem ldSteps_le (h : LDok lens m) {b : List Nat} (hb : b.length ≤ 4) : ldSteps m b ≤ geo (m.length + 1) := by
  unfold ldSteps
  have h1 := namesIn_le b
  have h2 := sum_le_mul (bS m) (geo m.length) (namesIn b) fun c _ => by
    unfold bS
    cases q : aGet m c with
    | none => simp
    | some x => exact h.st c x q
  have h3 : (namesIn b).length * geo m.length ≤ 4 * geo m.length := Nat.mul_le_mul_right _ (by omega)
  show _ ≤ 1 + 4 * geo m.length
  omega
/-- a rule that may be used: its word's length is known and small -/
structure RuOk (lens : List (Nat × Nat)) (r : Rule) : Prop where
  nm : nam r.1 = true
  few : r.2.length ≤ 4
  ok : ∀ c ∈ r.2, (sgn c || nam c) = true
  al : allIn lens r.2 = true
  here : (aGet lens r.1).isSome = true
  small : (aGet lens r.1).getD 0 ≤ 24
theorem swL_le {i j : Nat} {a b : List Nat} (h : swL i a j b = true) : i ≤ j := by
  unfold swL at h
  split at h
  · omega
  · have := of_decide_eq_true h; omega
theorem LDok.put (h : LDok lens m) (hr : RuOk lens r) (hd : ldDue lens m r = true) (hb : ldBetter m r = true) (n : Nat) : LDok lens (aPut m r.1 ⟨ldSteps m r.2, ldWord m r.2, n⟩) := by
  unfold ldDue at hd
  rw [Bool.and_eq_true, decide_eq_true_eq] at hd
  have hwl := ldWord_len h hd.2
  refine ⟨aPut_nodup h.nd, fun c hc => ?_, fun c x hx => ?_, fun c x hx => ?_, fun c x hx => ?_, fun c hc => ?_⟩
  · rw [aPut_keys] at hc
    split at hc
    · exact h.nm c hc
    · rcases List.mem_append.mp hc with hc | hc
      · exact h.nm c hc
      · simp at hc; subst hc; exact hr.nm
  · rw [aGet_put] at hx
    rw [aPut_length]
    by_cases e : c = r.1
    · subst e
      rw [if_pos rfl] at hx
      cases hx
      cases q : aGet m r.1 with
      | none => simp only [Option.isSome_none, Bool.false_eq_true, if_false]; exact ldSteps_le h hr.few
      | some y =>
        unfold ldBetter at hb
        rw [q] at hb
        have h1 := h.st _ _ q
        have h2 : ldSteps m r.2 ≤ y.a := swL_le hb
        simp only [Option.isSome_some, if_true]
        show ldSteps m r.2 ≤ _
        omega
    · rw [if_neg e] at hx
      have h1 := h.st _ _ hx
      split
      · exact h1
      · have := geo_mono (show m.length ≤ m.length + 1 by omega)
        omega
  · rw [aGet_put] at hx
    by_cases e : c = r.1
    · subst e
      rw [if_pos rfl] at hx
      cases hx
      show (ldWord m r.2).length = _ ∧ (ldWord m r.2).length ≤ 24
      rw [hwl, hd.1]
      exact ⟨rfl, hr.small⟩
    · rw [if_neg e] at hx
      exact h.wl c x hx
  · rw [aGet_put] at hx
    by_cases e : c = r.1
    · subst e
      rw [if_pos rfl] at hx
      cases hx
      exact ldWord_sgn h hr.ok
    · rw [if_neg e] at hx
      exact h.wc c x hx
  · rw [aPut_keys] at hc
    split at hc
    · exact h.hl c hc
    · rcases List.mem_append.mp hc with hc | hc
      · exact h.hl c hc
      · simp at hc; subst hc; exact hr.here
theorem val_small {l : List Nat} (h : ∀ c ∈ l, sgn c = true) (hl : l.length ≤ 24) : val l < UN := by
  have h1 := val_lt (l := l) fun c hc => sgn_lt (h c hc)
  have h2 := Nat.pow_le_pow_right (show 0 < 128 by decide) (show l.length ≤ 25 by omega)
  unfold UN
  omega
theorem muD_put (h : LDok lens m) (hr : RuOk lens r) (hd : ldDue lens m r = true) (hb : ldBetter m r = true) (n : Nat) : muD (aPut m r.1 ⟨ldSteps m r.2, ldWord m r.2, n⟩) < muD m := by
  have hrn := nam_iff.mp hr.nm
  have key := sum_change (fun i => wgt m (65 + i)) (fun i => wgt (aPut m r.1 ⟨ldSteps m r.2, ldWord m r.2, n⟩) (65 + i)) (r.1 - 65) (fun i hi => by
    show wgt _ (65 + i) = wgt _ (65 + i)
    unfold wgt
    rw [aGet_put, if_neg (by omega)]) 26
  rw [if_pos (by omega), if_pos (by omega)] at key
  have e : 65 + (r.1 - 65) = r.1 := by omega
  simp only [e] at key
  have hd' := hd
  unfold ldDue at hd'
  rw [Bool.and_eq_true, decide_eq_true_eq] at hd'
  have hwl := ldWord_len h hd'.2
  have hsg := ldWord_sgn h hr.ok
  have hl24 : (ldWord m r.2).length ≤ 24 := by rw [hwl, hd'.1]; exact hr.small
  have hlt : wgt (aPut m r.1 ⟨ldSteps m r.2, ldWord m r.2, n⟩) r.1 < wgt m r.1 := by
    unfold wgt
    rw [aGet_put, if_pos rfl]
    have hv := val_small hsg hl24
    cases q : aGet m r.1 with
    | none =>
      have h1 := ldSteps_le h hr.few
      have h2 := geo_mono (show m.length + 1 ≤ 27 by have := h.few; omega)
      have h3 : (ldSteps m r.2 + 1) * UN ≤ (geo 27 + 1) * UN := Nat.mul_le_mul_right _ (by omega)
      show ldSteps m r.2 * UN + val (ldWord m r.2) < (geo 27 + 1) * UN
      rw [Nat.add_mul] at h3
      omega
    | some t =>
      show ldSteps m r.2 * UN + val (ldWord m r.2) < t.a * UN + val t.b
      unfold ldBetter at hb
      rw [q] at hb
      have hb' : swL (ldSteps m r.2) (ldWord m r.2) t.a t.b = true := hb
      unfold swL at hb'
      split at hb'
      · rename_i e1
        have hle : (ldWord m r.2).length = t.b.length := by rw [hwl, hd'.1, (h.wl _ _ q).1]
        have := val_lex hle (fun c hc => sgn_lt (hsg c hc)) (of_decide_eq_true hb')
        rw [e1]
        omega
      · have h1 := of_decide_eq_true hb'
        have h3 : (ldSteps m r.2 + 1) * UN ≤ t.a * UN := Nat.mul_le_mul_right _ h1
        rw [Nat.add_mul] at h3
        omega
  unfold muD
  omega
end
section
variable {rules : List Rule} {lens : List (Nat × Nat)}
/-- what each turn of a round keeps -/
theorem ldFold {numbers : List Nat} : ∀ (st : Best × Bool), (∀ n ∈ numbers, ∃ r, rules[n]? = some r ∧ RuOk lens r) → LDok lens st.1 →
    LDok lens (numbers.foldl (ldStep rules lens) st).1 ∧ muD (numbers.foldl (ldStep rules lens) st).1 ≤ muD st.1 ∧ (st.2 = false → (numbers.foldl (ldStep rules lens) st).2 = true → muD (numbers.foldl (ldStep rules lens) st).1 < muD st.1) ∧
    ((numbers.foldl (ldStep rules lens) st).2 = false → (numbers.foldl (ldStep rules lens) st) = st) := by
  induction numbers with
  | nil =>
    intro st _ h
    refine ⟨h, Nat.le_refl _, fun h1 h2 => ?_, fun _ => rfl⟩
    rw [List.foldl_nil, h1] at h2
    cases h2
  | cons n rest ih =>
    intro st hr h
    obtain ⟨r, hn, hro⟩ := hr n List.mem_cons_self
    have step : LDok lens (ldStep rules lens st n).1 ∧ (ldStep rules lens st n = st ∨ (muD (ldStep rules lens st n).1 < muD st.1 ∧ (ldStep rules lens st n).2 = true)) := by
      unfold ldStep
      rw [hn]
      dsimp only
      split
      · rename_i hd
        split
        · rename_i hb
          exact ⟨h.put hro hd hb n, .inr ⟨muD_put h hro hd hb n, rfl⟩⟩
        · exact ⟨h, .inl rfl⟩
      · exact ⟨h, .inl rfl⟩
    obtain ⟨h1, h2⟩ := step
    obtain ⟨a1, a2, a3, a4⟩ := ih (ldStep rules lens st n) (fun x hx => hr x (List.mem_cons_of_mem _ hx)) h1
    rw [List.foldl_cons]
    rcases h2 with e | ⟨e1, e2⟩
    · rw [e] at a1 a2 a3 a4 ⊢
      exact ⟨a1, a2, a3, a4⟩
    · refine ⟨a1, by omega, fun _ _ => by omega, fun q => ?_⟩
      have := a4 q
      rw [this, e2] at q
      cases q
end
end SF
namespace SF
open PySem PySem.Spec PyProof.Rows L2
/-! ### x < y of data of one shape; of pairs of a number and a text -/
section
variable {X : Cx}
def rLtD (K : PySem.W.Frag) : R2 := fun x y H Q => ∃ d e, Dp K H x d ∧ Dp K H y e ∧ PySem.W.alike d e = true ∧ d ≠ .none ∧ min d.depth e.depth ≤ 64 ∧ Q (.bl (PySem.W.dataLt d e)) H
theorem op_ltD (hu : X.A.units + 64 < cLine) : OpR X (compareOp .Lt) (rLtD X.K) := by
  intro pins s σ H x y v u Q I rx ry h
  obtain ⟨d, e, hd, he, ha, hn, hz, q⟩ := h
  obtain ⟨as, r1⟩ := Dp.reads I d x v hd rx
  obtain ⟨bs, r2⟩ := Dp.reads I e y u he ry
  exact PySem.W.rcLt_alike d e X.A s v u as bs r1 r2 ha hn (by omega) X.prog X.w _ _ ⟨.bl _, H, I, rfl, q⟩
def swLt (i : Int) (a : List Nat) (j : Int) (b : List Nat) : Bool := if i = j then decide (a < b) else decide (i < j)
theorem dataLt_sw (i j : Int) (a b : List Nat) : PySem.W.dataLt (.tuple [.int i, .str (S a)]) (.tuple [.int j, .str (S b)]) = swLt i a j b := by
  rw [PySem.W.dataLt_tuple]
  unfold swLt
  by_cases h : i = j
  · rw [if_pos h, PySem.W.dataLt_all_yes rfl (by rw [PyData.eqv, beq_iff_eq]; exact h)]
    by_cases h2 : a = b
    · rw [PySem.W.dataLt_all_yes rfl (by rw [PyData.eqv, beq_iff_eq, h2]), h2, lex_irrefl]
      simp
    · rw [PySem.W.dataLt_all_no rfl (by rw [PyData.eqv, beq_eq_false_iff_ne]; exact fun e => h2 (S_inj.mp e)), PySem.W.dataLt_str, S_cps, S_cps]
  · rw [if_neg h, PySem.W.dataLt_all_no rfl (by rw [PyData.eqv, beq_eq_false_iff_ne]; exact h), PySem.W.dataLt_int]
def rLtSW (K : PySem.W.Frag) : R2 := fun x y H Q => ∃ p q i j a b, x = .ref p ∧ y = .ref q ∧ SqT K H p [.int i, .str (S a)] ∧ SqT K H q [.int j, .str (S b)] ∧ Q (.bl (swLt i a j b)) H
theorem op_ltSW (hu : X.A.units + 64 < cLine) : OpR X (compareOp .Lt) (rLtSW X.K) := by
  intro pins s σ H x y v u Q I rx ry h
  obtain ⟨p, q, i, j, a, b, rfl, rfl, hp, hq, h⟩ := h
  refine op_ltD hu pins s σ H _ _ v u Q I rx ry ⟨_, _, .tup hp (.cons (.int i) (.cons (.str _) .nil)), .tup hq (.cons (.int j) (.cons (.str _) .nil)), rfl, (fun z => nomatch z), ?_, ?_⟩
  · simp [PyData.depth, PyData.depthAll]
  · rw [dataLt_sw]; exact h
theorem op_ltSWK {K : PySem.W.Frag} (hu : X.A.units + 64 < cLine) (h : X.K = K := by rfl) : OpR X (compareOp .Lt) (rLtSW K) := by subst h; exact op_ltSW hu
end
end SF
namespace SF
open PySem PySem.Spec PyProof.Rows L2
theorem DGet.some {H : Hp} {a : Addr} {kvs : List (Key × V)} {k : Key} {v : V} (e : H a = some (.dK kvs)) (h : valV kvs k = some v) : DGet H a (kV k) (some v) := h ▸ DGet.k e
theorem at_ofG {α : Type} {xs : List α} {z : Int} {j : Nat} {v : α} (e : z = (j : Int)) (h : xs[j]? = some v) : atI xs z = some v := by
  have hlt := (List.getElem?_eq_some_iff.mp h).1
  subst e
  unfold atI ixN
  rw [if_pos (by omega), if_pos (by omega), Int.toNat_natCast]
  exact h
/-! ### joined texts -/
def joinL (sep : List Nat) : List (List Nat) → List Nat
  | [] => []
  | [x] => x
  | x :: y :: r => x ++ sep ++ joinL sep (y :: r)
theorem join_S' (sep : List Nat) : ∀ ls : List (List Nat), Str.join (S sep) (ls.map S) = S (joinL sep ls)
  | [] => rfl
  | [x] => rfl
  | x :: y :: r => by
    have ih := join_S' sep (y :: r)
    show S x ++ S sep ++ Str.join (S sep) ((y :: r).map S) = S (x ++ sep ++ joinL sep (y :: r))
    rw [ih, S_app, S_app]
theorem join_S (sep : List Nat) (ls : List (List Nat)) : Txt.join (S sep) (ls.map S) = S (joinL sep ls) := (StrLaws.glued_eq_join _ _).trans (join_S' sep ls)
theorem joinL_nil : ∀ ls : List (List Nat), joinL [] ls = ls.flatten
  | [] => rfl
  | [x] => by simp [joinL]
  | x :: y :: r => by
    show x ++ [] ++ joinL [] (y :: r) = _
    rw [joinL_nil (y :: r)]
    simp
theorem S_empty : (Str.ofString "") = S [] := by decide
theorem map_len (ls : List (List Nat)) : ((ls.map S).map (·.length)).sum = (ls.map List.length).sum := by
  rw [List.map_map, show ((fun x : Str => x.length) ∘ S) = List.length from funext fun l => S_len l]
/-! ### comprehensions over a list of data -/
section
variable {α β : Type} {J : It} {n : Nat} {G : Hp → Prop} {Y : Nat → Hp → V → Hp → Prop}
theorem lcfil (w : Walk J n G Y) {r : Rl β} [Mono r] {g : TG} {tt : TT} {te : TE} {vs : List Nat} {σ : L2.St} {F H1 : Hp} {D : Addr} {Qd : Hp → Prop} (xs : List α) (p : α → Bool) (f : α → β) (hD : H1 D = none) (sF : Same F H1) (hn : n = xs.length) (hz : xs.length < sizeLine)
    (hG : ∀ F4 H4, Ext F H1 F4 H4 → G H4)
    (turn : ∀ i x v F4 H4 H5, xs[i]? = some x → Ext F H1 F4 H4 → Y i H4 v H5 → ∀ (Qy : V → Hp → Prop) (Qn : Hp → Prop), (p x = true → ∀ y F7 H7, Ext F4 H4 F7 H7 → r F7 y (f x) → Qy y H7) → (p x = false → ∀ F7 H7, Ext F4 H4 F7 H7 → Qn H7) →
      g v (wipe σ vs) H5 fun σ2 H6 => wipe σ2 vs = wipe σ vs ∧ tt σ2 H6 fun b H7 => if b = true then te σ2 H7 Qy else Qn H7)
    (hd : ∀ ws F' H', Ext F H1 F' H' → F' D = some (.lst ws) → Al r F' ws ((xs.filter p).map f) → Qd H') :
    ∃ W : Nat → Nat → Hp → Prop, (∃ m, W 0 m (upd H1 D (.lst []))) ∧ ∀ i m H, W i m H →
      (J.stop i H ∧ Qd H) ∨ (J.go i H ∧ ∃ Nx : Hp → Prop, (∀ H', Nx H' → ∃ m', m' < m ∧ W (i + 1) m' H') ∧ ∀ x H', J.yld i H x H' → g x (wipe σ vs) H' fun σ2 H2 => wipe σ2 vs = wipe σ vs ∧ tt σ2 H2 fun b H3 =>
        if b = true then te σ2 H3 fun y H4 => ∃ acc, H4 D = some (.lst acc) ∧ acc.length < sizeLine ∧ Nx (upd H4 D (.lst (acc ++ [y]))) else Nx H3) := by
  refine lc_it w (LcI r F H1 D fun i => ((xs.take i).filter p).map f) (LcI.start sF hD rfl) (fun i H _ h => ?_) ?_ ?_
  · obtain ⟨F', ws, e, _⟩ := h
    exact hG F' H e
  · rintro i v H4 H5 hi ⟨F4, ws, e4, f4, hD4, al4⟩ hy
    have hi2 : i < xs.length := by omega
    have hx : xs[i]? = some xs[i] := List.getElem?_eq_getElem hi2
    have hzz : (((xs.take i).filter p).map f).length < sizeLine := by
      have h1 := List.length_filter_le p (xs.take i)
      rw [List.length_take] at h1
      rw [List.length_map]; omega
    refine turn i xs[i] v F4 H4 H5 hx e4 hy _ _ (fun hp y F7 H7 e7 q => ?_) (fun hp F7 H7 e7 => ?_)
    · exact LcI.yes (f xs[i]) hD e4 f4 hD4 al4 e7 q (by show List.map f (List.filter p _) = _; rw [filter_yes hx hp, List.map_append]; rfl) hzz
    · exact LcI.no e4 f4 hD4 al4 e7 (by show List.map f (List.filter p _) = _; rw [filter_no hx hp])
  · intro H7 h7
    obtain ⟨F7, vs7, e7, fD7, al7⟩ := h7.frz hD
    rw [hn, List.take_length] at al7
    exact hd vs7 F7 H7 e7 fD7 al7
theorem lcmap (w : Walk J n G Y) {r : Rl β} [Mono r] {g : TG} {te : TE} {vs : List Nat} {σ : L2.St} {F H1 : Hp} {D : Addr} {Qd : Hp → Prop} (xs : List α) (f : α → β) (hD : H1 D = none) (sF : Same F H1) (hn : n = xs.length) (hz : xs.length < sizeLine)
    (hG : ∀ F4 H4, Ext F H1 F4 H4 → G H4)
    (turn : ∀ i x v F4 H4 H5, xs[i]? = some x → Ext F H1 F4 H4 → Y i H4 v H5 → ∀ (Qy : V → Hp → Prop), (∀ y F7 H7, Ext F4 H4 F7 H7 → r F7 y (f x) → Qy y H7) →
      g v (wipe σ vs) H5 fun σ2 H6 => wipe σ2 vs = wipe σ vs ∧ te σ2 H6 Qy)
    (hd : ∀ ws F' H', Ext F H1 F' H' → F' D = some (.lst ws) → Al r F' ws (xs.map f) → Qd H') :
    ∃ W : Nat → Nat → Hp → Prop, (∃ m, W 0 m (upd H1 D (.lst []))) ∧ ∀ i m H, W i m H →
      (J.stop i H ∧ Qd H) ∨ (J.go i H ∧ ∃ Nx : Hp → Prop, (∀ H', Nx H' → ∃ m', m' < m ∧ W (i + 1) m' H') ∧ ∀ x H', J.yld i H x H' → g x (wipe σ vs) H' fun σ2 H2 => wipe σ2 vs = wipe σ vs ∧ tYes σ2 H2 fun b H3 =>
        if b = true then te σ2 H3 fun y H4 => ∃ acc, H4 D = some (.lst acc) ∧ acc.length < sizeLine ∧ Nx (upd H4 D (.lst (acc ++ [y]))) else Nx H3) := by
  refine lc_it w (LcI r F H1 D fun i => (xs.take i).map f) (LcI.start sF hD rfl) (fun i H _ h => ?_) ?_ ?_
  · obtain ⟨F', ws, e, _⟩ := h
    exact hG F' H e
  · rintro i v H4 H5 hi ⟨F4, ws, e4, f4, hD4, al4⟩ hy
    have hi2 : i < xs.length := by omega
    have hx : xs[i]? = some xs[i] := List.getElem?_eq_getElem hi2
    have hzz : ((xs.take i).map f).length < sizeLine := by rw [List.length_map, List.length_take]; omega
    have q := turn i xs[i] v F4 H4 H5 hx e4 hy (fun y H => ∃ acc, H D = some (.lst acc) ∧ acc.length < sizeLine ∧ LcI r F H1 D (fun i => (xs.take i).map f) (i + 1) (upd H D (.lst (acc ++ [y])))) (fun y F7 H7 e7 q => LcI.yes (f xs[i]) hD e4 f4 hD4 al4 e7 q (by show List.map f _ = _; rw [map_more hx]) hzz)
    simpa only [tYes, reduceIte] using q
  · intro H7 h7
    obtain ⟨F7, vs7, e7, fD7, al7⟩ := h7.frz hD
    rw [hn, List.take_length] at al7
    exact hd vs7 F7 H7 e7 fD7 al7
end
section
variable {K : PySem.W.Frag} {β : Type}
/-- [e for c in names], the names' list frozen -/
theorem lc_cs {r : Rl β} [Mono r] {g : TG} {te : TE} {vs : List Nat} {σ : L2.St} {F H1 : Hp} {D a : Addr} {Qd : Hp → Prop} (cs : List Nat) (f : Nat → β) (hD : H1 D = none) (sF : Same F H1) (ha : F a = some (.lst (cs.map vc))) (hz : cs.length < sizeLine)
    (turn : ∀ c F4 H4, c ∈ cs → Ext F H1 F4 H4 → ∀ (Qy : V → Hp → Prop), (∀ y F7 H7, Ext F4 H4 F7 H7 → r F7 y (f c) → Qy y H7) → g (vc c) (wipe σ vs) H4 fun σ2 H6 => wipe σ2 vs = wipe σ vs ∧ te σ2 H6 Qy)
    (hd : ∀ ws F' H', Ext F H1 F' H' → F' D = some (.lst ws) → Al r F' ws (cs.map f) → Qd H') :
    ∃ W : Nat → Nat → Hp → Prop, (∃ m, W 0 m (upd H1 D (.lst []))) ∧ ∀ i m H, W i m H →
      ((Itl K a).stop i H ∧ Qd H) ∨ ((Itl K a).go i H ∧ ∃ Nx : Hp → Prop, (∀ H', Nx H' → ∃ m', m' < m ∧ W (i + 1) m' H') ∧ ∀ x H', (Itl K a).yld i H x H' → g x (wipe σ vs) H' fun σ2 H2 => wipe σ2 vs = wipe σ vs ∧ tYes σ2 H2 fun b H3 =>
        if b = true then te σ2 H3 fun y H4 => ∃ acc, H4 D = some (.lst acc) ∧ acc.length < sizeLine ∧ Nx (upd H4 D (.lst (acc ++ [y]))) else Nx H3) := by
  refine lcmap (walk_list (K := K) (a := a) (xs := cs.map vc)) cs f hD sF (List.length_map ..) hz (fun F4 H4 e => SqL.of (e.sm _ _ ha)) (fun i c v F4 H4 H5 hc e hy Qy q => ?_) hd
  obtain ⟨rfl, hy⟩ := hy
  have : v = vc c := by
    have := map_get' (f := vc) hc
    rw [hy] at this
    exact Option.some.inj this
  subst this
  exact turn c F4 H5 (List.mem_of_getElem? hc) e Qy q
/-- [e for c in text] -/
theorem lc_chars {r : Rl β} [Mono r] {g : TG} {te : TE} {vs : List Nat} {σ : L2.St} {F H1 : Hp} {D : Addr} {Qd : Hp → Prop} (cs : List Nat) (f : Nat → β) (hD : H1 D = none) (sF : Same F H1) (hz : cs.length < sizeLine)
    (turn : ∀ c F4 H4, c ∈ cs → Ext F H1 F4 H4 → ∀ (Qy : V → Hp → Prop), (∀ y F7 H7, Ext F4 H4 F7 H7 → r F7 y (f c) → Qy y H7) → g (vc c) (wipe σ vs) H4 fun σ2 H6 => wipe σ2 vs = wipe σ vs ∧ te σ2 H6 Qy)
    (hd : ∀ ws F' H', Ext F H1 F' H' → F' D = some (.lst ws) → Al r F' ws (cs.map f) → Qd H') :
    ∃ W : Nat → Nat → Hp → Prop, (∃ m, W 0 m (upd H1 D (.lst []))) ∧ ∀ i m H, W i m H →
      ((Its (S cs)).stop i H ∧ Qd H) ∨ ((Its (S cs)).go i H ∧ ∃ Nx : Hp → Prop, (∀ H', Nx H' → ∃ m', m' < m ∧ W (i + 1) m' H') ∧ ∀ x H', (Its (S cs)).yld i H x H' → g x (wipe σ vs) H' fun σ2 H2 => wipe σ2 vs = wipe σ vs ∧ tYes σ2 H2 fun b H3 =>
        if b = true then te σ2 H3 fun y H4 => ∃ acc, H4 D = some (.lst acc) ∧ acc.length < sizeLine ∧ Nx (upd H4 D (.lst (acc ++ [y]))) else Nx H3) := by
  refine lcmap (walk_str (z := S cs)) cs f hD sF (S_size cs) hz (fun _ _ _ => trivial) (fun i c v F4 H4 H5 hc e hy Qy q => ?_) hd
  obtain ⟨rfl, ch, h1, rfl⟩ := hy
  have h1 := S_get h1
  rw [hc] at h1
  obtain rfl := Option.some.inj h1
  exact turn c F4 H5 (List.mem_of_getElem? hc) e Qy q
/-- [e for i in range(n)] -/
theorem lc_rng {r : Rl β} [Mono r] {g : TG} {te : TE} {vs : List Nat} {σ : L2.St} {F H1 : Hp} {D : Addr} {Qd : Hp → Prop} {n : Nat} (f : Nat → β) (hD : H1 D = none) (sF : Same F H1) (hz : n < sizeLine)
    (turn : ∀ i F4 H4, i < n → Ext F H1 F4 H4 → ∀ (Qy : V → Hp → Prop), (∀ y F7 H7, Ext F4 H4 F7 H7 → r F7 y (f i) → Qy y H7) → g (.int (0 + (i : Nat))) (wipe σ vs) H4 fun σ2 H6 => wipe σ2 vs = wipe σ vs ∧ te σ2 H6 Qy)
    (hd : ∀ ws F' H', Ext F H1 F' H' → F' D = some (.lst ws) → Al r F' ws ((List.range n).map f) → Qd H') :
    ∃ W : Nat → Nat → Hp → Prop, (∃ m, W 0 m (upd H1 D (.lst []))) ∧ ∀ i m H, W i m H →
      ((Itr 0 n).stop i H ∧ Qd H) ∨ ((Itr 0 n).go i H ∧ ∃ Nx : Hp → Prop, (∀ H', Nx H' → ∃ m', m' < m ∧ W (i + 1) m' H') ∧ ∀ x H', (Itr 0 n).yld i H x H' → g x (wipe σ vs) H' fun σ2 H2 => wipe σ2 vs = wipe σ vs ∧ tYes σ2 H2 fun b H3 =>
        if b = true then te σ2 H3 fun y H4 => ∃ acc, H4 D = some (.lst acc) ∧ acc.length < sizeLine ∧ Nx (upd H4 D (.lst (acc ++ [y]))) else Nx H3) := by
  refine lcmap (walk_range (lo := 0) (n := n)) (List.range n) f hD sF List.length_range.symm (by rw [List.length_range]; exact hz) (fun _ _ _ => trivial) (fun i c v F4 H4 H5 hc e hy Qy q => ?_) hd
  obtain ⟨rfl, rfl⟩ := hy
  have hlt : i < n := by have := (List.getElem?_eq_some_iff.mp hc).1; rwa [List.length_range] at this
  rw [List.getElem?_range hlt] at hc
  obtain rfl := Option.some.inj hc
  exact turn i F4 H5 hlt e Qy q
end
end SF
/-! ### sets of texts, made of a list, and sorted -/
namespace SF
open PySem PySem.Spec PyProof.Rows L2 PySem.Froz
/-- at a stands a set of the texts l (none twice); its table rises and can be walked -/
def TS (P : Program) (w : World) (h : Heap) (a : Addr) (l : List Str) : Prop :=
  ∃ D : SD, h.get? a = some (sObj "set" D) ∧ TxOk P w D l ∧ l.Nodup ∧ Ris D.2.2.place.toList ∧ (w.params.followText "set-order" = true ∨ D.2.2.led = true)
section
variable {P : Program} {w : World} {A : Around} {E : Value → Shared → Prop} {s : Shared}
theorem TS.at {h h' : Heap} {a : Addr} {l : List Str} (R : TS P w h a l) (k : ∀ o, h.get? a = some o → h'.get? a = some o) : TS P w h' a l := by
  obtain ⟨D, ho, r⟩ := R
  exact ⟨D, k _ ho, r⟩
theorem addTx_walk {h : Int} {v : Value} {D : SD} (r : Ris D.2.2.place.toList) : Ris (addTx h v D).2.2.place.toList ∧ (addTx h v D).2.2.led = D.2.2.led := by
  have h1 := layNew_ris D.2.2 D.1 h v r
  have h2 := layNew_led D.2.2 D.1 h v
  have key : ∀ (ep : Nat) (es1 : Array (Int × Value)) (t2 : SetTable) (b : Bool), Ris t2.place.toList → t2.led = D.2.2.led → Ris (tailTx ep es1 t2 b).2.2.place.toList ∧ (tailTx ep es1 t2 b).2.2.led = D.2.2.led := by
    intro ep es1 t2 b q1 q2
    unfold tailTx
    split
    · exact ⟨relayAll_ris t2 es1 _, (relayAll_led t2 es1 _).trans q2⟩
    · exact ⟨q1, q2⟩
  unfold addTx
  split
  · exact key _ _ _ _ h1 h2
  · exact key _ _ _ _ h1 h2
/-- what stands there already -/
theorem add_old {a : Addr} {T : String} {D : SD} {l : List Str} {k : Str} {u : Tok} {Q : Bool → Shared → Prop} (ho : s.heap.get? a = some (sObj T D)) (F : TxOk P w D l) (hk : k ∈ l) (hb : l.length < scanBound) (h : Q false s) :
    wpAny (model P w) A (setAddHashed a (.str k u) (hashStr w k)) Q E s := by
  obtain ⟨es, ep, t⟩ := D
  have hel : ElemsOf (strKind P w) es.toList := F.el
  have hsz : es.size = l.length := F.sz
  unfold setAddHashed setAddHashedIn
  refine wpAny_holding (wpAny_bind (wpAny_setState_of ho rfl F.fit ?_))
  dsimp only
  rw [byScan_of rfl (by omega) hel]
  simp only [↓reduceIte]
  unfold setAddByScan
  refine wpAny_bind (wpAny_bind (wpAny_rule (wpAny_bind (wpAny_setScan_of (knd := strKind P w) (k := k) (is_str k u) ho rfl F.fit hel ?_))))
  cases hr : List.findIdx? (fun e => (strKind P w).is k e.2) es.toList with
  | some j => exact wpAny_pure (wpAny_pure h)
  | none =>
    obtain ⟨e, he, q⟩ := (F.mem k).mp hk
    have c := List.findIdx?_eq_none_iff.mp hr e he
    rw [q] at c
    cases c
/-- one text more -/
theorem TS.add {a : Addr} {l : List Str} {k : Str} {u : Tok} {Q : Bool → Shared → Prop} (R : TS P w s.heap a l) (hb : l.length + 1 < scanBound)
    (h : ∀ b h', Heap.SameBut a s.heap h' → TS P w h' a (if k ∈ l then l else k :: l) → Q b { s with heap := h' }) : wpAny (model P w) A (setAddHashed a (.str k u) (hashStr w k)) Q E s := by
  have R0 := R
  obtain ⟨D, ho, F, nd, r, hl⟩ := R
  by_cases hk : k ∈ l
  · refine add_old ho F hk (by omega) ?_
    have q := h false s.heap (Heap.SameBut.refl a s.heap)
    rw [if_pos hk] at q
    exact q R0
  · refine add_x ho F hk hb ?_
    obtain ⟨r2, l2⟩ := addTx_walk (h := hashStr w k) (v := .str k u) r
    refine h true _ (Heap.SameBut.update s.heap a _) ?_
    rw [if_neg hk]
    exact ⟨addTx (hashStr w k) (.str k u) D, get_upd _ ho rfl, add_ok u F, List.nodup_cons.mpr ⟨hk, nd⟩, r2, hl.imp id fun z => l2.trans z⟩
/-- the texts met in the first i -/
def met (ks : List Str) : Nat → List Str
  | 0 => []
  | i + 1 => match ks[i]? with
    | some k => if k ∈ met ks i then met ks i else k :: met ks i
    | none => met ks i
theorem met_len (ks : List Str) : ∀ i, (met ks i).length ≤ i
  | 0 => Nat.le_refl _
  | i + 1 => by
    have ih := met_len ks i
    unfold met
    split
    · split
      · omega
      · simp only [List.length_cons]; omega
    · omega
theorem met_mem (ks : List Str) (x : Str) : ∀ i, x ∈ met ks i ↔ x ∈ ks.take i
  | 0 => by simp [met]
  | i + 1 => by
    have ih := met_mem ks x i
    unfold met
    cases q : ks[i]? with
    | none =>
      dsimp only
      rw [ih]
      have : ks.length ≤ i := List.getElem?_eq_none_iff.mp q
      rw [List.take_of_length_le this, List.take_of_length_le (by omega)]
    | some k =>
      dsimp only
      rw [take_more q, List.mem_append, ← ih]
      split
      · rename_i hk
        constructor
        · exact .inl
        · rintro (z | z)
          · exact z
          · simp at z; subst z; exact hk
      · simp [or_comm]
theorem met_nodup (ks : List Str) : ∀ i, (met ks i).Nodup
  | 0 => by simp [met]
  | i + 1 => by
    have ih := met_nodup ks i
    unfold met
    split
    · split
      · exact ih
      · rename_i q; exact List.nodup_cons.mpr ⟨q, ih⟩
    · exact ih
theorem upd_loop {I : Addr} {fp wr : List Addr} {G : Array GenState → Array GenState → Prop} {n : Nat} {Pv : Nat → Value → Prop} {St : Nat → Shared → Prop} {R : Result → Shared → Prop}
    (W : WalksS P w A.in1 I fp wr G n Pv St) (a : Addr) (haf : a ∉ fp) (ks : List Str) (hn : n = ks.length) (hb : ks.length + 1 < scanBound) (hv : ∀ i v, Pv i v → ∃ k u, ks[i]? = some k ∧ v = .str k u) :
    ∀ (m i : Nat) (s : Shared), n - i = m → i ≤ n → St i s → TS P w s.heap a (met ks i) → (∀ s', Moved (a :: wr) G s s' → TS P w s'.heap a (met ks n) → R (.ok (.ret .none)) s') →
      codeAny (model P w) A (.builtin "set.update.loop" ⟨[.ref a, .ref I], []⟩) R s := by
  have haw : a ∉ wr := fun h => haf (W.sub _ h)
  have sub : ∀ b ∈ wr, b ∈ a :: wr := fun b hb => List.mem_cons_of_mem _ hb
  intro m
  induction m with
  | zero =>
    intro i s hm hi hst hS hR
    obtain rfl : i = n := by omega
    refine codeAny_builtin F.entry_set_update_loop ?_
    rw [Around.under_plainId F.plain_set_update_loop _]
    refine wpAny_bind (W.done s _ _ hst fun s' mv => ?_)
    exact wpAny_pure (hR s' (mv.mono sub) (hS.at fun o e => mv.heap a o haw e))
  | succ m ih =>
    intro i s hm hi hst hS hR
    have hlt : i < n := by omega
    refine codeAny_builtin F.entry_set_update_loop ?_
    rw [Around.under_plainId F.plain_set_update_loop _]
    refine wpAny_bind (W.item i s _ _ hlt hst fun v s' hP hst' mv => ?_)
    obtain ⟨k, u, hk, rfl⟩ := hv i v hP
    have hS' : TS P w s'.heap a (met ks i) := hS.at fun o e => mv.heap a o haw e
    show wpAny _ A.in1 (holding [Value.str k u] (setAdd a (.str k u)) >>= _) _ _ s'
    refine wpAny_bind (wpAny_holding ?_)
    unfold setAdd
    refine wpAny_holding (wpAny_bind ((strKind P w).pyHash (is_str k u) ?_))
    have hz := met_len ks i
    refine TS.add (s := { s' with toks := s'.toks + 1 }) hS' (by omega) fun b h' sb hS2 => ?_
    have e2 : (if k ∈ met ks i then met ks i else k :: met ks i) = met ks (i + 1) := by
      show _ = (match ks[i]? with | some k => if k ∈ met ks i then met ks i else k :: met ks i | none => met ks i)
      rw [hk]
    rw [e2] at hS2
    refine wpAny_pure ⟨plainId_quiet F.plain_set_update_loop _, ih (i + 1) _ (by omega) hlt (W.frame _ s' _ _ hst' (Nat.le_add_right _ _) fun b hb o e => ?_) hS2 fun s'' mv2 hS3 => ?_⟩
    · rw [sb.2 b (fun h : b = a => haf (by rw [← h]; exact hb))]; exact e
    · refine hR s'' (Moved.trans W.gtrans ((mv.mono sub).then_heap (Nat.le_add_right _ _) fun b o hb e => ?_) mv2) hS3
      rw [sb.2 b (fun h : b = a => hb (by rw [h]; exact List.mem_cons_self))]; exact e
end
section
variable {P : Program} {w : World} {A : Around} {E : Value → Shared → Prop} {s : Shared}
/-- the object of a new set -/
abbrev set0 (w : World) : Obj := { cls := .type "set", dict := none, data := .set #[] 0 (.fresh 0 0 (!w.params.followText "set-order")) }
theorem TS.fresh {h : Heap} {a : Addr} (ho : h.get? a = some (set0 w)) : TS P w h a [] :=
  ⟨(#[], 0, .fresh 0 0 (!w.params.followText "set-order")), ho, TxOk.nil rfl, List.nodup_nil, (by show Ris (#[] : Array Nat).toList; unfold Ris; simp), by
    show _ ∨ (!w.params.followText "set-order") = true
    cases w.params.followText "set-order" <;> simp⟩
/-- the walk of set.__init__ over a list of texts -/
theorem set_init {a l : Addr} {items : Array Value} {ks : List Str} {R : Result → Shared → Prop} (hh : A.handled = none) (ha : s.heap.get? a = some (set0 w)) (hl : s.heap.IsList l items) (hisz : items.size = ks.length) (hb : ks.length + 1 < scanBound)
    (hit : ∀ (i : Nat) v, items[i]? = some v → ∃ k u, ks[i]? = some k ∧ v = .str k u) (hal : a ≠ l)
    (h : ∀ h' tk, TS P w h' a (met ks ks.length) → (∀ b o, b ≠ a → s.heap.get? b = some o → h'.get? b = some o) → R (.ok (.ret .none)) { s with heap := h', toks := tk }) :
    codeAny (model P w) A (.builtin "set.update.loop" ⟨[.ref a, .ref s.heap.objs.size], []⟩) R { s with heap := s.heap.push { cls := .type "list_iterator", data := .fields #[.ref l, .int 0 0] } } := by
  have hlt : l < s.heap.objs.size := let ⟨_, e, _⟩ := hl; Heap.lt_size e
  have hat : a < s.heap.objs.size := Heap.lt_size ha
  have hfp : a ∉ [s.heap.objs.size, l] := by
    simp only [List.mem_cons, List.not_mem_nil, or_false, not_or]
    exact ⟨Nat.ne_of_lt hat, hal⟩
  refine upd_loop ((Walks.list (A := A.in1) (by simp [hh]) _ l (Nat.ne_of_lt hlt) items).toS) a hfp ks hisz hb hit (items.size - 0) 0 _ rfl (Nat.zero_le _) ⟨⟨_, Heap.get?_push_size _ rfl, rfl, rfl⟩, hl.push _⟩ (TS.fresh (Heap.get?_push_of_some _ ha)) fun s' mv hS => ?_
  obtain ⟨h', g2, d', tk', os'⟩ := s'
  obtain rfl : g2 = s.gens := mv.gens
  obtain rfl : d' = s.drawn := mv.drawn
  obtain rfl : os' = s.os := mv.os
  rw [hisz] at hS
  refine h h' tk' hS fun b o hba e => mv.heap b o (fun hb => ?_) (Heap.get?_push_of_some _ e)
  rcases List.mem_cons.mp hb with z | z
  · exact hba z
  · rw [List.mem_singleton.mp z] at e
    exact absurd (Heap.lt_size e) (Nat.lt_irrefl _)
/-- set(xs), xs a list of texts -/
theorem call_set_texts {l : Addr} {items : Array Value} {ks : List Str} {Q : Value → Shared → Prop} (hh : A.handled = none) (hl : s.heap.IsList l items) (hisz : items.size = ks.length) (hb : ks.length + 1 < scanBound)
    (hit : ∀ (i : Nat) v, items[i]? = some v → ∃ k u, ks[i]? = some k ∧ v = .str k u)
    (h : ∀ h' tk, TS P w h' s.heap.objs.size (met ks ks.length) → (∀ b o, s.heap.get? b = some o → h'.get? b = some o) → Q (.ref s.heap.objs.size) { s with heap := h', toks := tk }) :
    wpAny (model P w) A (call (.type "set") [.ref l]) Q E s := by
  obtain ⟨c, tl, hmro⟩ := F.called_set.mro
  have hmade := F.called_set.made
  have hsub := F.called_set.sub
  have h1 := F.called_set.notType
  have h2 := F.called_set.canCreate
  have hct := F.typeCall_set_1 (.ref l)
  have kS : ∀ b o, s.heap.get? b = some o → (s.heap.push (set0 w)).get? b = some o := fun b o e => Heap.get?_push_of_some _ e
  have hS : (s.heap.push (set0 w)).get? s.heap.objs.size = some (set0 w) := Heap.get?_push_size _ rfl
  have hT : Shared.TypeIs { s with heap := s.heap.push (set0 w) } (.ref s.heap.objs.size) "set" := ⟨_, hS, rfl⟩
  have hli := F.called_set.init.lookup
  have hbi := F.called_set.init.bind (.ref s.heap.objs.size)
  refine wpAny_call (codeAny_of_tree ?_)
  show wpAny _ _ (callAny (.type "set") _) _ _ _
  refine wpAny_pure ⟨Code.quiet_builtin _ (by decide +kernel), codeAny_builtin F.entry_type_call ?_⟩
  rw [Around.under_plain (weight_type_call_type "set" [.ref l] []) rfl]
  repeat (any_goals (first | assumption | wp_step))
  refine codeAny_mono (code_set_led1 (.ref l) (E := E) (Q₁ := fun obj s₁ => obj = .ref s.heap.objs.size ∧ s₁ = { s with heap := s.heap.push (set0 w) }) ⟨rfl, rfl⟩) fun r s₁ hr => ?_
  cases r with
  | error e => exact hr
  | ok fl =>
    cases fl with
    | ret obj =>
      obtain ⟨rfl, rfl⟩ := hr
      repeat (any_goals (first | assumption | wp_step))
      refine codeAny_mono (codeAny_call_builtin (R := wants (fun r s₂ => r = .none ∧ ∃ h' tk, s₂ = { s with heap := h', toks := tk } ∧ TS P w h' s.heap.objs.size (met ks ks.length) ∧ (∀ b o, s.heap.get? b = some o → h'.get? b = some o)) E)
        F.called_set.init.plain F.entry_set_init (check_set_init_1 hT ?_)) fun r₂ s₂ hr₂ => ?_
      · obtain ⟨ol, hol, hcl, nl, hdl⟩ := id hl
        obtain ⟨ocls, odict, odata, oslots⟩ := ol
        simp only at hcl hdl
        subst hcl; subst hdl
        have hol' : (s.heap.push (set0 w)).get? l = some { cls := .type "list", dict := odict, data := .seq items nl, slots := oslots } := kS _ _ hol
        have hsls := F.sub_list_set
        have hslf := F.sub_list_frozenset
        have hne : (Value.type "list" == Value.type "dict") = false := by decide
        have hl1 : (s.heap.push (set0 w)).IsList l items := ⟨_, hol', rfl, nl, rfl⟩
        unfold Builtin.«set.__init__» noKeywords Builtin.Frozenset.updateFrom
        generalize hPI : pyIter = PI
        wp_walk
        subst hPI
        refine wpAny_pyIter_list hl1 ?_
        refine wpAny_bind (wpAny_runValue ?_)
        refine set_init (s := { s with heap := s.heap.push (set0 w) }) (by simp [hh]) hS hl1 hisz hb hit (Nat.ne_of_gt (Heap.lt_size hol)) fun h' tk hR k' => ?_
        show wpAny _ _ _ _ _ _
        refine wpAny_pure ?_
        show wpAny _ _ (ret Value.none) _ _ _
        exact wpAny_pure ⟨rfl, h', tk, rfl, hR, fun b o e => k' b o (Nat.ne_of_lt (Heap.lt_size e)) (kS b o e)⟩
      · cases r₂ with
        | error e => exact hr₂
        | ok fl₂ =>
          cases fl₂ with
          | ret r =>
            obtain ⟨rfl, h', tk, rfl, hS', hk'⟩ := hr₂
            repeat (any_goals (first | assumption | wp_step))
            exact h _ _ hS' hk'
          | _ => exact hr₂.elim
    | _ => exact hr.elim
end
/-! ### sorted of such a set -/
section
variable {P : Program} {w : World} {A : Around} {E : Value → Shared → Prop} {s : Shared}
theorem strs_out {es : List (Int × Value)} (h : ElemsOf (PySem.strKind P w) es) : ∀ e ∈ es, ∃ x t, e.2 = .str x t := fun e he => by
  obtain ⟨⟨k, hk, _⟩, _⟩ := h e he
  exact ⟨k, Value.isStrOf_shape (x := k) (v := e.2) hk⟩
theorem sorted_texts {a : Addr} {l : List Str} {Q : Value → Shared → Prop} (R : TS P w s.heap a l) (hh : A.handled = none) (h64 : l.length < 64)
    (hQ : ∀ s' p (out : Array Value) (c : Nat) (ys : List Str), (∀ b o, s.heap.get? b = some o → s'.heap.get? b = some o) → s'.gens = s.gens → s'.os = s.os → s.heap.objs.size ≤ p →
      s'.heap.get? p = some (seqObj "list" out c) → StrsAre out.toList ys → ys.Nodup → (∀ x, x ∈ ys ↔ x ∈ l) → sortedS ys = true → Q (.ref p) s') :
    wpAny (model P w) A (call (.builtin "sorted") [.ref a]) Q E s := by
  obtain ⟨⟨es, ep, t⟩, ho, FT, nd, r, hled⟩ := R
  have hes : es.size = l.length := FT.sz
  refine Calls.call_function_entry kind_sorted plain_sorted entry_sorted (args_sorted1 _) ?_
  unfold Builtin.«sorted»
  refine wpAny_bind (m := checkCount "sorted" 1 1 _) (wpAny_pure ?_)
  have hc : SetAt s.heap a es ep t := ⟨_, ho, rfl, rfl⟩
  refine wpAny_bind (collect_set (A := A.in1) hh hc FT.fit (by rw [hes]; unfold scanBound; omega) r hled fun s1 vs k1 hz g1 o1 pm => ?_)
  have hvs : ∀ v ∈ vs, ∃ x t, v = .str x t := fun v hv => by
    obtain ⟨e, he, q⟩ := List.mem_map.mp (pm.mem_iff.mp hv)
    obtain ⟨x, tk, h1⟩ := strs_out FT.el e he
    exact ⟨x, tk, by rw [← q]; exact h1⟩
  have hS : StrsAre vs (vs.map strOf) := strsAre_map vs hvs
  have hvl : vs.length = l.length := by rw [pm.length_eq, List.length_map, Array.length_toList, hes]
  refine wpAny_bind (wpAny_newList ?_ (by rw [hvl, sizeLine_eq]; omega))
  have hoL : (s1.heap.push (seqObj "list" vs.toArray 0)).get? s1.heap.objs.size = some (seqObj "list" vs.toArray 0) := Heap.get?_push_size _ rfl
  refine wpAny_bind (wpAny_holding (wpAny_call_entry slot_list_sort ⟨_, hoL, rfl⟩ entry_list_sort (list_sort_treeK strKind_oneLt hoL hS.keysOf (fun v₁ v₂ rest e => keyKind_strs (by rw [← e]; exact hS)) (by rw [hvl]; exact h64) fun st' hp hs => ⟨_, rfl, ?_⟩) (args_list_sort _)))
  obtain ⟨ys, y1, y2, y3⟩ := sorted_out_str hS hp hs
  obtain ⟨c, hcc⟩ := sortedHeap_at (vs := vs) (out := (arrOf st').map (·.2)) hoL
  have mem1 : ∀ x, x ∈ vs.map strOf ↔ x ∈ l := fun x => by
    rw [(FT.mem x)]
    constructor
    · intro hx
      obtain ⟨v, hv, rfl⟩ := List.mem_map.mp hx
      obtain ⟨e, he, q⟩ := List.mem_map.mp (pm.mem_iff.mp hv)
      obtain ⟨y, tk, rfl⟩ := hvs v hv
      exact ⟨e, he, by rw [q]; exact is_str _ _⟩
    · rintro ⟨e, he, q⟩
      refine List.mem_map.mpr ⟨e.2, pm.mem_iff.mpr (List.mem_map_of_mem he), ?_⟩
      obtain ⟨tk, z⟩ := Value.isStrOf_shape (x := x) (v := e.2) q
      rw [z]; rfl
  have ndv : (vs.map strOf).Nodup := by
    have hsub := nodup_le (l := l) (s := vs.map strOf) nd fun x hx => (mem1 x).mpr hx
    rw [List.length_map, hvl] at hsub
    exact nodup_of_len nd (fun x hx => (mem1 x).mpr hx) (by rw [List.length_map, hvl])
  refine wpAny_pure ⟨_, rfl, hQ _ s1.heap.objs.size _ c ys (fun b u e => ?_) g1 o1 hz hcc y1 (y2.nodup_iff.mpr ndv) (fun x => by rw [y2.mem_iff, mem1 x]) y3⟩
  have q := k1 b u e
  have hlt := Heap.lt_size q
  show (sortedHeap (s1.heap.push (seqObj "list" vs.toArray 0)) s1.heap.objs.size vs _).get? b = some u
  rw [sortedHeap_old (Nat.ne_of_lt hlt) (by rw [size_push']; exact Nat.lt_succ_of_lt hlt)]
  exact Heap.get?_push_of_some _ q
end
/-! ### over the layer -/
def TSO (P : Program) (w : World) (a : Addr) (l : List Str) : HO := .ext fun h => TS P w h a l
section
variable {X : Cx}
theorem tso_ok {P : Program} {w : World} {H : Hp} {h : Heap} {a : Addr} {l : List Str} (R : TS P w h a l) : ObjOk P w H h a (TSO P w a l) := by
  have ⟨D, ho, _⟩ := R
  exact ⟨R, ⟨_, ho⟩, fun h1 h2 p k => p.at k⟩
def rSetL (K : PySem.W.Frag) (P : Program) (w : World) : List V → Hp → VK → Prop := fun xs H Q => ∃ (l : Addr) (ks : List Str), xs = [.ref l] ∧ SqL K H l (ks.map V.str) ∧ ks.length < 4000 ∧
  ∀ p, H p = none → Q (.ref p) (upd H p (TSO P w p (met ks ks.length)))
theorem cr_setOf (hc : X.calm = true) : CallR X (.type "set") (rSetL X.K X.prog X.w) := by
  intro pins s σ H xs us Q I r h
  obtain ⟨l, ks, rfl, hs, hz, q⟩ := h
  obtain ⟨its, rv, pl, _⟩ := I.list hs
  rw [Vals.ref1 r]
  have hlen := rv.length
  rw [List.length_map] at hlen
  refine call_set_texts (I.ok.hd hc) pl.isList (ks := ks) (by rw [List.size_toArray]; exact hlen.symm) (by unfold scanBound; omega) (fun i v hv => ?_) fun h' tk R k => ?_
  · have hv' : its[i]? = some v := by simpa using hv
    have hi : i < ks.length := by rw [hlen]; exact (List.getElem?_eq_some_iff.mp hv').1
    have e1 : (ks.map V.str)[i]? = some (.str ks[i]) := by rw [List.getElem?_map, List.getElem?_eq_getElem hi]; rfl
    obtain ⟨u, e2, r2⟩ := rv.get e1
    rw [hv'] at e2
    obtain rfl := Option.some.inj e2
    obtain ⟨t, rfl⟩ := r2
    exact ⟨_, t, List.getElem?_eq_getElem hi, rfl⟩
  · exact ⟨.ref _, _, I.laid (t' := tk) k (Nat.le_refl _) (tso_ok R), rfl, q _ (I.hok.fresh (Nat.le_refl _))⟩
def rSortSet (P : Program) (w : World) : List V → Hp → VK → Prop := fun vs H Q => ∃ (a : Addr) (l : List Str), vs = [V.ref a] ∧ H a = some (TSO P w a l) ∧ l.length < 64 ∧
  ∀ (ys : List Str) (p : Addr), ys.Nodup → (∀ x, x ∈ ys ↔ x ∈ l) → sortedS ys = true → ys.length ≤ 64 → H p = none → Q (.ref p) (upd H p (.lst (ys.map V.str)))
theorem cr_sortedSet' (hc : X.calm = true) : CallR X (.builtin "sorted") (rSortSet X.prog X.w) := by
  intro pins s σ H vs us Q I r h
  obtain ⟨a, l, rfl, ha, h64, q⟩ := h
  have R : TS X.prog X.w s.heap a l := (I.hok a _ ha).1
  rw [Vals.ref1 r]
  refine sorted_texts R (I.ok.hd hc) h64 fun s' p out c ys k g o hp hg hi nd hm hs => ?_
  have hl : ys.length ≤ l.length := nodup_le nd fun x hx => (hm x).mp hx
  have hlen : (ys.map V.str).length ≤ sizeLine := by rw [List.length_map, sizeLine_eq]; omega
  have hn : H p = none := I.hok.fresh hp
  have J : Inv X pins σ (upd H p (.lst (ys.map V.str))) { s with heap := s'.heap, gens := s'.gens, drawn := s'.drawn, toks := s'.toks } :=
    I.call (ch := []) (Un.laid k hp hn) (I.hok.laid k hp ⟨hlen, out.toList, c, vals_of_strs hi, hg⟩) (by rw [g]; exact I.bare) (fun _ z => nomatch z)
  have e : s' = { s with heap := s'.heap, gens := s'.gens, drawn := s'.drawn, toks := s'.toks } := by
    cases s'
    cases s
    cases o
    rfl
  rw [e]
  exact ⟨.ref p, _, J, rfl, q ys p nd hm hs (by omega) hn⟩
end
section
variable {X : Cx} {K : PySem.W.Frag} {P : Program} {w : World}
theorem cr_setOfK (hc : X.calm = true) (h : X.K = K := by rfl) (hP : X.prog = P := by rfl) (hw : X.w = w := by rfl) : CallR X (.type "set") (rSetL K P w) := by subst h hP hw; exact cr_setOf hc
theorem cr_sortedSetK (hc : X.calm = true) (hP : X.prog = P := by rfl) (hw : X.w = w := by rfl) : CallR X (.builtin "sorted") (rSortSet P w) := by subst hP hw; exact cr_sortedSet' hc
end
/-! ### sorted sets of one-letter texts -/
theorem rising_le : ∀ (l : List Nat) (p : Nat), risingS (S [p]) (l.map fun c => S [c]) = true → (p :: l).Pairwise (· ≤ ·)
  | [], p, _ => by simp
  | x :: r, p, h => by
    have h' : (!ltCps (S [x]).cps.toList (S [p]).cps.toList && risingS (S [x]) (r.map fun c => S [c])) = true := h
    rw [Bool.and_eq_true, S_cps, S_cps] at h'
    have hpx : p ≤ x := by
      have := h'.1
      simp [ltCps] at this
      omega
    have ih := rising_le r x h'.2
    rw [List.pairwise_cons]
    refine ⟨fun y hy => ?_, ih⟩
    rcases List.mem_cons.mp hy with z | z
    · omega
    · have := (List.pairwise_cons.mp ih).1 y z
      omega
theorem sorted_le : ∀ (l : List Nat), sortedS (l.map fun c => S [c]) = true → l.Pairwise (· ≤ ·)
  | [], _ => .nil
  | x :: r, h => rising_le r x h
theorem le_lt : ∀ {l : List Nat}, l.Pairwise (· ≤ ·) → l.Nodup → l.Pairwise (· < ·)
  | [], _, _ => .nil
  | a :: l, h, n => by
    rw [List.pairwise_cons] at h ⊢
    rw [List.nodup_cons] at n
    refine ⟨fun b hb => ?_, le_lt h.2 n.2⟩
    have h1 := h.1 b hb
    have h2 : a ≠ b := fun e => n.1 (e ▸ hb)
    omega
/-- what sorted(set(names_in(b))) is -/
theorem sorted_names {b : List Nat} {ys l : List Str} (nd : ys.Nodup) (hm : ∀ x, x ∈ ys ↔ x ∈ l) (hl : ∀ x, x ∈ l ↔ x ∈ (namesIn b).map fun c => S [c]) (hs : sortedS ys = true) : ys = (sortedNames b).map fun c => S [c] := by
  have key : ∀ (ys : List Str), (∀ x ∈ ys, ∃ c, x = S [c]) → ∃ cs : List Nat, ys = cs.map fun c => S [c] := by
    intro ys
    induction ys with
    | nil => intro _; exact ⟨[], rfl⟩
    | cons y r ih =>
      intro h
      obtain ⟨cs, hcs⟩ := ih fun x hx => h x (List.mem_cons_of_mem _ hx)
      obtain ⟨c, hc⟩ := h y List.mem_cons_self
      exact ⟨c :: cs, by rw [hcs, hc]; rfl⟩
  have inj : ∀ a c : Nat, S [a] = S [c] → a = c := fun a c h => by simpa using S_inj.mp h
  obtain ⟨cs, rfl⟩ := key ys fun x hx => by
    obtain ⟨c, _, e⟩ := List.mem_map.mp ((hl x).mp ((hm x).mp hx))
    exact ⟨c, e.symm⟩
  have mem : ∀ c, c ∈ cs ↔ c ∈ sortedNames b := fun c => by
    rw [sortedNames_mem]
    have q := (hm (S [c])).trans (hl (S [c]))
    constructor
    · intro hc
      obtain ⟨d, hd, e⟩ := List.mem_map.mp (q.mp (List.mem_map_of_mem hc))
      rw [← inj _ _ e]; exact hd
    · intro hc
      obtain ⟨d, hd, e⟩ := List.mem_map.mp (q.mpr (List.mem_map_of_mem hc))
      rw [← inj _ _ e]; exact hd
  have nd' : cs.Nodup := List.Pairwise.of_map (f := fun c => S [c]) (S := (· ≠ ·)) (R := (· ≠ ·)) (fun a c h e => h (by rw [e])) nd
  rw [asc_eq (le_lt (sorted_le cs hs) nd') (sortedNames_asc b) mem]
end SF
namespace SF
open PySem PySem.Spec PyProof.Rows L2
/-! ### text[::-1] -/
theorem range_fm (l : List Nat) : (List.range l.length).filterMap (l.toArray[·]?) = l := by
  have key : ∀ k, k ≤ l.length → (List.range k).filterMap (l.toArray[·]?) = l.take k := by
    intro k
    induction k with
    | zero => intro _; rfl
    | succ k ih =>
      intro hk
      rw [List.range_succ, List.filterMap_append, ih (by omega), take_more (List.getElem?_eq_getElem (show k < l.length by omega))]
      congr 1
      simp [show k < l.length by omega]
  have := key l.length (Nat.le_refl _)
  rwa [List.take_length] at this
theorem rev_ix (n : Nat) : Builtin.Str.strSliceIndices none none (-1) n = (List.range n).reverse := by
  show sliceRange ((n : Int) - 1) (-1) (-1) = _
  rw [PySem.W.krv_sliceRange, PySem.W.krv_range]
def tRevS (te : TE) : TE := fun σ H Q => te σ H fun x H1 => ∃ l, x = .str (S l) ∧ l.length ≤ sizeLine ∧ Q (.str (S l.reverse)) H1
section
variable {X : Cx}
theorem pe_revS {e : Expr} {te : TE} {k : Nat} {p1 p2 p3 pos : Pos} (he : PE X e te) : PE X (.Subscript e (.Slice none none (some (.UnaryOp .USub (.Constant (.int 1) k p1) p2)) p3) pos) (tRevS te) := by
  refine ⟨fun pins s σ H Q I h => ?_⟩
  refine Subscript_ (thn (he.run pins s σ H _ I h) fun v s1 ⟨x, H1, I1, r1, q1⟩ => ?_)
  obtain ⟨z, ex, hz, q⟩ := q1
  subst ex
  obtain ⟨t, rfl⟩ := r1
  have hst : PO X (some (.UnaryOp .USub (.Constant (.int 1) k p1) p2)) (tPart (tUn (rU fun i => .int (-i)) (tC (.int 1)))) := po_some (pe_un un_neg pe_int)
  refine wpAny_Slice (thn (po_none.run pins s1 σ H1 (fun o H2 => o = none ∧ H2 = H1) I1 ⟨rfl, rfl⟩) fun vl s2 ⟨l, H2, I2, pl, el, e2⟩ => ?_)
  subst el e2
  refine thn (po_none.run pins s2 σ H2 (fun o H3 => o = none ∧ H3 = H2) I2 ⟨rfl, rfl⟩) fun vu s3 ⟨u, H3, I3, pu, eu, e3⟩ => ?_
  subst eu e3
  refine thn (hst.run pins s3 σ H3 (fun o H4 => o = some (-1) ∧ H4 = H3) I3 ⟨1, rfl, -1, rfl, rfl, rfl⟩) fun vs s4 ⟨o, H4, I4, ps, eo, e4⟩ => ?_
  subst eo e4
  have I5 : Inv X pins σ H4 { s4 with heap := s4.heap.push { cls := .type "slice", data := .fields #[vl, vu, vs] } } := I4.kept (t' := s4.toks) fun b ob q => Heap.get?_push_of_some _ q
  obtain ⟨l', rl, el⟩ := IsPart.raw pl
  obtain ⟨u', ru, eu⟩ := IsPart.raw pu
  obtain ⟨st', rs, es⟩ := IsPart.raw ps
  subst rl ru rs
  show wpAny (model X.prog X.w) X.A (subscriptTail e (.Slice none none (some (.UnaryOp .USub (.Constant (.int 1) k p1) p2)) p3) (.str (S z) t) (.ref s4.heap.objs.size)) (EP X pins σ Q) X.xe { s4 with heap := s4.heap.push { cls := .type "slice", data := .fields #[partValue l', partValue u', partValue st'] } }
  refine tail_any (T := "str") (id := "str.__getitem__") (ops := [.str (S z) t, .ref s4.heap.objs.size]) (typeIs_str _ _ _) (PySem.F.slot_str_getitem.lookup) ?_ (by with_unfolding_all rfl)
  have hsl : ({ s4 with heap := s4.heap.push { cls := .type "slice", data := .fields #[partValue l', partValue u', partValue st'] } } : Shared).heap.IsSlice s4.heap.objs.size l' u' st' := ⟨_, Heap.get?_push_size _ rfl, rfl, rfl⟩
  have e1 : (st'.map (·.1)) = some (-1) := es
  have e2 : (l'.map (·.1)) = none := el
  have e3 : (u'.map (·.1)) = none := eu
  refine wpAny_getItem_str_slice hsl (by rw [e1]; rfl) ?_
  unfold sliceMade slicePicked
  rw [e1, e2, e3]
  show Made.post (if ((-1 : Int) == 1 && _) = true then _ else Made.str ⟨((Builtin.Str.strSliceIndices none none (-1) (S z).length).filterMap ((S z).cps[·]?)).toArray⟩) (EP X pins σ Q) _
  rw [show ((-1 : Int) == 1) = false from rfl, Bool.false_and, if_neg Bool.false_ne_true, rev_ix, S_len, List.filterMap_reverse, range_fm]
  exact ⟨by rw [show (⟨z.reverse.toArray⟩ : Str) = S z.reverse from rfl, S_len, List.length_reverse]; exact hz, .str (S z.reverse), H4, I5.tok _, ⟨_, rfl⟩, q⟩
end
/-! ### everything new is frozen -/
def allF (F H H' : Hp) : Hp := fun b => if H b = none then H' b else F b
theorem Ext.all {F H H' : Hp} (s : Same F H) (h : Same H H') : Ext F H (allF F H H') H' where
  hh := h
  ff := fun b u q => by
    unfold allF
    rw [if_neg (by rw [s b u q]; simp)]
    exact q
  fh := fun b u q => by
    unfold allF at q
    by_cases c : H b = none
    · rw [if_pos c] at q; exact q
    · rw [if_neg c] at q; exact h b u (s b u q)
  nf := fun b hb hf => by
    unfold allF
    rw [if_neg hb]; exact hf
theorem allF_new {F H H' : Hp} {b : Addr} (h : H b = none) : allF F H H' b = H' b := if_pos h
/-- behind a lock -/
theorem same_unlock {H H' : Hp} {d : Addr} {o : Obj} {u : HO} (h : Same (upd H d (.frz o u)) H') (hd : H d = some u) : Same H (upd H' d u) := fun b q e => by
  by_cases c : b = d
  · subst c; rw [upd_same, ← e, hd]
  · rw [upd_ne c]; exact h b q (by rw [upd_ne c]; exact e)
/-! ### an instance's attributes -/
theorem putF_ne {k f : Str} {x v : V} {l : List (Str × V)} (h : ¬ k = f) : putF f v ((k, x) :: l) = (k, x) :: putF f v l := by
  rw [putF]
  exact if_neg h
theorem putF_eq {f : Str} {x v : V} {l : List (Str × V)} : putF f v ((f, x) :: l) = (f, v) :: l := by
  rw [putF]
  exact if_pos rfl
theorem putF_nil {f : Str} {v : V} : putF f v [] = [(f, v)] := rfl
theorem look_eq {f : Str} {x : V} {l : List (Str × V)} : List.lookup f ((f, x) :: l) = some x := by
  rw [List.lookup_cons, beq_self_eq_true]
theorem look_ne {f k : Str} {x : V} {l : List (Str × V)} (h : ¬ f = k) : List.lookup f ((k, x) :: l) = List.lookup f l := by
  rw [List.lookup_cons, beq_eq_false_iff_ne.mpr h]
theorem look_nil {f : Str} : List.lookup f ([] : List (Str × V)) = none := rfl
/-! ### dict comprehensions over any walk -/
section
variable {J : It} {n : Nat} {G : Hp → Prop} {Y : Nat → Hp → V → Hp → Prop}
theorem dc_it (w : Walk J n G Y) {g : TG} {tt : TT} {tk tv : TE} {vs : List Nat} {σ : L2.St} {H1 : Hp} {D : Addr} {Qd : Hp → Prop} (Pv : Nat → Hp → Prop) (h0 : Pv 0 (upd H1 D (.dK []))) (hG : ∀ i H, i ≤ n → Pv i H → G H)
    (hs : ∀ i x H H', i < n → Pv i H → Y i H x H' → g x (wipe σ vs) H' fun σ2 H2 => wipe σ2 vs = wipe σ vs ∧ tt σ2 H2 fun b H3 =>
      if b = true then tk σ2 H3 fun y H4 => tv σ2 H4 fun z H5 => ∃ kvs k, y = kV k ∧ H5 D = some (.dK kvs) ∧ kvs.length < sizeLine ∧ Pv (i + 1) (upd H5 D (.dK (putK kvs k z))) else Pv (i + 1) H3) (hd : ∀ H, Pv n H → Qd H) :
    ∃ W : Nat → Nat → Hp → Prop, (∃ m, W 0 m (upd H1 D (.dK []))) ∧ ∀ i m H, W i m H →
      (J.stop i H ∧ Qd H) ∨ (J.go i H ∧ ∃ Nx : Hp → Prop, (∀ H', Nx H' → ∃ m', m' < m ∧ W (i + 1) m' H') ∧ ∀ x H', J.yld i H x H' → g x (wipe σ vs) H' fun σ2 H2 => wipe σ2 vs = wipe σ vs ∧ tt σ2 H2 fun b H3 =>
        if b = true then tk σ2 H3 fun y H4 => tv σ2 H4 fun z H5 => ∃ kvs k, y = kV k ∧ H5 D = some (.dK kvs) ∧ kvs.length < sizeLine ∧ Nx (upd H5 D (.dK (putK kvs k z))) else Nx H3) := by
  refine ⟨fun i m H => m = n - i ∧ i ≤ n ∧ Pv i H, ⟨n, by simp, Nat.zero_le _, h0⟩, ?_⟩
  rintro i m H ⟨rfl, hi, p⟩
  have q := hG i H hi p
  by_cases hlt : i < n
  · exact .inr ⟨w.goes i H hlt q, Pv (i + 1), fun H' p' => ⟨n - (i + 1), by omega, rfl, hlt, p'⟩, fun x H' y => hs i x H H' hlt p (w.yields i H x H' hlt q y)⟩
  · have e : i = n := by omega
    subst e
    exact .inl ⟨w.stops H q, hd H p⟩
end
section
variable {X : Cx}
theorem sw_trueD {kx vx : Expr} {gs : List Comprehension} {scope : Scope} {pos py : Pos} {y : Str} {l : Nat} {env : Env} (hk : env.scope.kind = .function) (hy : env.scope.names.lookup y = some .local) (hl : (py.line == pos.line) = true)
    (ha : (scope.names.any fun (n, k) => n == y && (k == .local || k == .cell)) = false) : swapsWith (.DictComp kx vx gs scope pos) (some (.Name y py)) l env = pure true := by
  have ky : env.kindOf y = some .local := hy
  have hb : env.blockKind = .function := by unfold Env.blockKind; rw [hk]; rfl
  unfold swapsWith
  simp only [hb, ky, ha, Expr.pos, hl]
  rfl
theorem ps_setDc {i : Nat} {y : Str} {py : Pos} {kx vx tg iter : Expr} {ifs : List Expr} {scope : Scope} {own : List (Str × Nat)} {pos spos : Pos} {wi : TI} {g : TG} {tt : TT} {tk tv : TE} (hc : X.calm = true) (hN : X.N.Nodup) (hy : X.N[i]? = some y) (hyl : X.env.scope.names.lookup y = some .local)
    (hsw : swapsWith (.DictComp kx vx [⟨tg, iter, ifs, 0⟩] scope pos) (some (.Name y py)) spos.line X.env = pure true) (hi : PI X tg iter wi) (ok : BlkOk X.N X.env.scope scope own)
    (hg : ∀ (s : Shared) (H : Hp) (C : Addr) (cl : List (Str × Addr)) (fp : List Addr), PG (X.blk s H scope (compEnvC scope cl C X.env) fp) tg g) (ht : ∀ (s : Shared) (H : Hp) (C : Addr) (cl : List (Str × Addr)) (fp : List Addr), PTs (X.blk s H scope (compEnvC scope cl C X.env) fp) ifs tt)
    (hk : ∀ (s : Shared) (H : Hp) (C : Addr) (cl : List (Str × Addr)) (fp : List Addr), PE (X.blk s H scope (compEnvC scope cl C X.env) fp) kx tk)
    (he : ∀ (s : Shared) (H : Hp) (C : Addr) (cl : List (Str × Addr)) (fp : List Addr), PE (X.blk s H scope (compEnvC scope cl C X.env) fp) vx tv) (hs : ∀ x, foldedSetIterable iter X.env x = pure x := by intro _; rfl) :
    PS X (.Assign [.Name y py] (.DictComp kx vx [⟨tg, iter, ifs, 0⟩] scope pos) spos) (tAsg (tDc wi g tt tk tv (own.map (·.2))) (gName i)) := by
  refine ⟨fun pins s σ H D I h => ?_⟩
  rw [exec_Assign_Name_used _ _ _ _ hsw]
  refine wpAny_bind (wpAny_standAt (wpAny_bind ?_))
  show wpAny _ X.A (do let _ ← comprehension (.DictComp kx vx [⟨tg, iter, ifs, 0⟩] scope pos) scope X.env (firstIterPos [⟨tg, iter, ifs, 0⟩] pos) newDict false (eval iter X.env) (some (assign (.Name y py) X.env))) _ _ s
  have h : tDc wi g tt tk tv (own.map (·.2)) σ H (fun x H1 => gName i x σ H1 D.nx) := h
  refine wpAny_bind (thn (dc_core (Qf := fun _ s' => SP X pins D .next s') hc hN I hi ok hg ht hk he hs h fun L C s' m H' I' q hn f => ?_) fun _ s' hq => wpAny_pure (wpAny_pure hq))
  show wpAny _ _ (assign (.Name y py) X.env (.ref L)) _ _ _
  refine wpAny_assign_Name (store_ok2 (v := V.ref L) I' hN hy (.inl hyl) rfl (fun s2 I2 ⟨a, sb, ha⟩ => ?_) (.inr hyl))
  obtain ⟨f0, f1, f2, f3, f4, f5⟩ := f
  have haC : C ≠ a := by
    rcases ha with z | z
    · rw [z]; exact f1
    · exact fun e => f4 y a z e.symm
  refine ⟨m, hn.sameBut sb haC, fun h3 sb3 => ?_⟩
  exact ⟨_, H', I2.turned (t' := s2.toks) (fun b o hb e => (sb3.2 b hb).trans e) f0 f1 f3 f4 f5, q⟩
end
section
variable {X : Cx} {K : PySem.W.Frag}
theorem isiK (h : X.K = K := by rfl) : CallR X (.builtin "isinstance") (rIsi K) := by subst h; exact call_isi
theorem pe_cvalK {e : Expr} {ta : TE} {f : Str} {pos : Pos} (he : PE X e ta) (hb : attributeBase e f X.env (eval e X.env) = eval e X.env := by rfl) (h : X.K = K := by rfl) : PE X (.Attribute e f pos) (ClX.tCVal K ta f) := by subst h; exact ClX.pe_cval he hb
end
end SF
namespace SF
abbrev Pair := List Nat × List Nat
structure Tab where
  pairs : List Pair
  numbers : List Nat
  vanishing : List (Nat × Bool)
  byName : List (List Nat × List Nat)
def headAt (pairs : List Pair) (n : Nat) : List Nat := (pairs[n]?.map (·.1)).getD []
def bnStep (pairs : List Pair) (m : List (List Nat × List Nat)) (n : Nat) : List (List Nat × List Nat) := aPut m (headAt pairs n) ((aGet m (headAt pairs n)).getD [] ++ [n])
def mkByName (pairs : List Pair) (numbers : List Nat) : List (List Nat × List Nat) := numbers.foldl (bnStep pairs) []
def mkTab (pairs : List Pair) (numbers : List Nat) (van : List (Nat × Bool)) : Tab := ⟨pairs, numbers, van, mkByName pairs numbers⟩
structure Gram where
  rules : List Rule
  root : Nat
namespace Gram
variable (g : Gram)
def lens : List (Nat × Nat) := leastLengths g.rules
def useful : List Nat := usefulNumbers g.rules g.root g.lens
def best : Best := leastDerivations g.rules g.useful g.lens
def van : List (Nat × Bool) := ((g.best.map (·.1)).filter fun c => decide ((aGet g.lens c).getD 0 = 0)).map fun c => (c, true)
def pairs : List Pair := (g.rules.map fun r => ([r.1], r.2)) ++ [([60, 62], [60, g.root, 62])]
def numbers : List Nat := g.useful ++ [g.rules.length]
def fwd : Tab := mkTab g.pairs g.numbers g.van
def bwd : Tab := mkTab (g.pairs.map fun p => (p.1, p.2.reverse)) g.numbers g.van
/-- a grammar that is let -/
structure Ok : Prop where
  few : 1 ≤ g.rules.length ∧ g.rules.length ≤ 16
  rok : RulesOk g.rules
  here : g.root ∈ g.rules.map (·.1)
  ends : (aGet g.lens g.root).isSome = true
  some_ : g.useful ≠ []
  short : ∀ n ∈ g.useful, ∀ r, g.rules[n]? = some r → (aGet g.lens r.1).getD 0 ≤ 24
  bne : g.best ≠ []
  fast : ∀ c t, aGet g.best c = some t → t.a ≤ 100
end Gram
end SF
namespace SF
open PySem PySem.Spec PyProof.Rows L2
def encS (l : List Nat) : Key := Sum.inr (S l)
theorem encS_inj (a b : List Nat) (h : encS a = encS b) : a = b := S_inj.mp (Sum.inr.inj h)
/-- a list of numbers that may still change, made since H2 -/
def rML (H2 : Hp) : Rl (List Nat) := fun H v x => ∃ l, v = .ref l ∧ H l = some (.lst (x.map vn)) ∧ H2 l = none
instance {H2 : Hp} : Mono (rML H2) := ⟨fun s h => by
  obtain ⟨l, e, h1, h2⟩ := h
  exact ⟨l, e, s _ _ h1, h2⟩⟩
theorem valV_mem {κ : Type} [DecidableEq κ] {k : κ} {v : V} : ∀ {kvs : List (κ × V)}, valV kvs k = some v → v ∈ kvs.map (·.2)
  | [], h => by cases h
  | p :: r, h => by
    by_cases e : p.1 = k
    · rw [valV_pos e] at h
      cases h
      exact List.mem_cons_self
    · rw [valV_neg e] at h
      exact List.mem_cons_of_mem _ (valV_mem h)
theorem rML.upd {H2 H : Hp} {v : V} {x : List Nat} {q : Addr} {o : HO} (h : rML H2 H v x) (hq : v ≠ .ref q) : rML H2 (upd H q o) v x := by
  obtain ⟨l, rfl, h1, h2⟩ := h
  exact ⟨l, rfl, by rw [upd_ne (fun e => hq (by rw [e]))]; exact h1, h2⟩
theorem AD.updM {H2 H : Hp} {q : Addr} {o : HO} : ∀ {kvs : List (Key × V)} {m : List (List Nat × List Nat)}, AD encS (rML H2) H kvs m → .ref q ∉ kvs.map (·.2) → AD encS (rML H2) (upd H q o) kvs m
  | _, _, .nil, _ => .nil
  | _, _, .cons h t, hq => .cons ⟨h.1, h.2.upd (fun e => hq (by rw [List.map_cons, e]; exact List.mem_cons_self))⟩ (AD.updM t fun z => hq (List.mem_cons_of_mem _ z))
/-- an address that holds no list of the dict -/
theorem AD.notin {H2 H : Hp} {q : Addr} {o : HO} (hq : H q = some o) (ho : ∀ xs, o ≠ .lst xs) : ∀ {kvs : List (Key × V)} {m : List (List Nat × List Nat)}, AD encS (rML H2) H kvs m → .ref q ∉ kvs.map (·.2)
  | _, _, .nil => by simp
  | _, _, .cons h t => by
    intro z
    rw [List.map_cons] at z
    rcases List.mem_cons.mp z with z | z
    · obtain ⟨l, e, h1, _⟩ := h.2
      rw [e] at z
      cases z
      rw [hq] at h1
      exact ho _ (Option.some.inj h1)
    · exact AD.notin hq ho t z
theorem AD.notin0 {H2 H : Hp} {q : Addr} (hq : H q = none) : ∀ {kvs : List (Key × V)} {m : List (List Nat × List Nat)}, AD encS (rML H2) H kvs m → .ref q ∉ kvs.map (·.2)
  | _, _, .nil => by simp
  | _, _, .cons h t => by
    intro z
    rw [List.map_cons] at z
    rcases List.mem_cons.mp z with z | z
    · obtain ⟨l, e, h1, _⟩ := h.2
      rw [e] at z
      cases z
      rw [hq] at h1
      cases h1
    · exact AD.notin0 hq t z
/-- one of the lists changes -/
theorem AD.chg {H2 H : Hp} {k y : List Nat} {l : Addr} (hl2 : H2 l = none) : ∀ {kvs : List (Key × V)} {m : List (List Nat × List Nat)}, AD encS (rML H2) H kvs m → (kvs.map (·.2)).Nodup → (m.map (·.1)).Nodup → valV kvs (encS k) = some (.ref l) →
    AD encS (rML H2) (upd H l (.lst (y.map vn))) kvs (aPut m k y)
  | _, _, .nil, _, _, hv => by cases hv
  | _, _, .cons (l₁ := kvs) (l₂ := m) (a := kv) (b := x0) h t, nd, kn, hv => by
    rw [List.map_cons, List.nodup_cons] at nd kn
    by_cases e : x0.1 = k
    · have e1 : kv.1 = encS k := by rw [h.1, e]
      rw [valV_pos e1] at hv
      have hv' := Option.some.inj hv
      have hput : aPut (x0 :: m) k y = (x0.1, y) :: m := by
        unfold aPut
        rw [List.any_cons, decide_eq_true e, Bool.true_or, if_pos rfl, List.map_cons, if_pos e]
        congr 1
        have key : ∀ m : List (List Nat × List Nat), k ∉ m.map (·.1) → (m.map fun p => if p.1 = k then (p.1, y) else p) = m := by
          intro m
          induction m with
          | nil => intro _; rfl
          | cons p r ih =>
            intro hk
            rw [List.map_cons] at hk
            rw [List.map_cons, if_neg (fun z => hk (by rw [z]; exact List.mem_cons_self)), ih (fun z => hk (List.mem_cons_of_mem _ z))]
        exact key m (by rw [← e]; exact kn.1)
      rw [hput]
      refine .cons ⟨h.1, l, hv', upd_same, hl2⟩ (AD.updM t ?_)
      rw [← hv']
      exact nd.1
    · have e1 : ¬ kv.1 = encS k := fun z => e (encS_inj _ _ (h.1.symm.trans z))
      rw [valV_neg e1] at hv
      have hne : kv.2 ≠ .ref l := fun z => nd.1 (by rw [z]; exact valV_mem hv)
      have ih := AD.chg hl2 t nd.2 kn.2 hv (y := y)
      have hput : aPut (x0 :: m) k y = x0 :: aPut m k y := by
        unfold aPut
        rw [List.any_cons, decide_eq_false e, Bool.false_or]
        split
        · rw [List.map_cons, if_neg e]
        · rfl
      rw [hput]
      exact .cons ⟨h.1, h.2.upd hne⟩ ih
/-- frozen at the end -/
theorem AD.fin {F H2 H : Hp} : ∀ {kvs : List (Key × V)} {m : List (List Nat × List Nat)}, AD encS (rML H2) H kvs m → AD encS (rL rNat) (allF F H2 H) kvs m
  | _, _, .nil => .nil
  | _, _, .cons h t => by
    obtain ⟨h0, l, e, h1, h2⟩ := h
    refine .cons ⟨h0, l, _, e, (allF_new h2).trans h1, ?_⟩ (AD.fin t)
    have key : ∀ xs : List Nat, Al rNat (allF F H2 H) (xs.map vn) xs := by
      intro xs
      induction xs with
      | nil => exact .nil
      | cons a r ih => exact .cons rfl ih
    exact key _
theorem aPut_put {κ α : Type} [DecidableEq κ] (m : List (κ × α)) (k : κ) (x y : α) : aPut (aPut m k x) k y = aPut m k y := by
  have h1 : ((aPut m k x).any fun p => decide (p.1 = k)) = true := by
    rw [aGet_any, aGet_put, if_pos rfl]; rfl
  have key : ∀ (m : List (κ × α)), ((m.map fun p => if p.1 = k then (p.1, x) else p).map fun p => if p.1 = k then (p.1, y) else p) = m.map fun p => if p.1 = k then (p.1, y) else p := by
    intro m
    rw [List.map_map]
    apply List.map_congr_left
    intro p _
    show (if (if p.1 = k then (p.1, x) else p).1 = k then _ else _) = _
    by_cases e : p.1 = k
    · rw [if_pos e]; simp [e]
    · rw [if_neg e, if_neg e, if_neg e]
  rw [aPut, if_pos h1]
  unfold aPut
  by_cases h : (m.any fun p => decide (p.1 = k)) = true
  · rw [if_pos h, if_pos h, key]
  · rw [if_neg h, if_neg h, List.map_append]
    have key2 : ∀ (m : List (κ × α)), (m.any fun p => decide (p.1 = k)) = false → (m.map fun p => if p.1 = k then (p.1, y) else p) = m := by
      intro m
      induction m with
      | nil => intro _; rfl
      | cons p r ih =>
        intro hh
        rw [List.any_cons, Bool.or_eq_false_iff] at hh
        rw [List.map_cons, if_neg (of_decide_eq_false hh.1), ih hh.2]
    rw [key2 m (Bool.eq_false_iff.mpr h)]
    simp
/-! ### tables -/
def rTab (C : Addr) : Rl Tab := fun F v t => ∃ p dx pa na va ba, v = .ref p ∧ F p = some (.ins C dx [("pairs", .ref pa), ("numbers", .ref na), ("vanishing", .ref va), ("by_name", .ref ba)]) ∧
  rL (rP rS rS) F (.ref pa) t.pairs ∧ rL rNat F (.ref na) t.numbers ∧ rD encN rB F (.ref va) t.vanishing ∧ rD encS (rL rNat) F (.ref ba) t.byName
instance {C : Addr} : Mono (rTab C) := ⟨fun s h => by
  obtain ⟨p, dx, pa, na, va, ba, e, h0, h1, h2, h3, h4⟩ := h
  exact ⟨p, dx, pa, na, va, ba, e, s _ _ h0, Mono.mono s h1, Mono.mono s h2, Mono.mono s h3, Mono.mono s h4⟩⟩
theorem aPut_new {κ α : Type} [DecidableEq κ] {m : List (κ × α)} {k : κ} {x : α} (h : aGet m k = none) : aPut m k x = m ++ [(k, x)] := by
  unfold aPut
  rw [aGet_any, h]
  rfl
theorem nodup_take {α : Type} {l : List α} {i : Nat} {x : α} (h : l.Nodup) (hx : l[i]? = some x) : x ∉ l.take i := by
  intro hm
  have h2 : (l.take i ++ l.drop i).Nodup := by rw [List.take_append_drop]; exact h
  rw [List.nodup_append] at h2
  exact h2.2.2 x hm x (List.mem_iff_getElem?.mpr ⟨0, by rw [List.getElem?_drop]; exact hx⟩) rfl
theorem al_pairs {F : Hp} : ∀ {vs : List V} {rules : List Rule}, Al rRule F vs rules → Al (rP rS rS) F vs (rules.map fun r => ([r.1], r.2))
  | _, _, .nil => .nil
  | _, _, .cons h t => .cons h (al_pairs t)
theorem S_lt : (Str.ofString "<") = S [60] := by decide
theorem S_gt : (Str.ofString ">") = S [62] := by decide
theorem S_ltgt : (Str.ofString "<>") = S [60, 62] := by decide
theorem al_nats {F : Hp} : ∀ xs : List Nat, Al rNat F (xs.map vn) xs
  | [] => .nil
  | _ :: r => .cons rfl (al_nats r)
theorem al_cs {F : Hp} : ∀ xs : List Nat, Al rC F (xs.map vc) xs
  | [] => .nil
  | _ :: r => .cons rfl (al_cs r)
end SF
namespace SF
section
variable {α β : Type} {f : β × Bool → α → β × Bool}
theorem fold_quiet (hq : ∀ st x, (f st x).2 = false → f st x = st) : ∀ {l : List α} {st : β × Bool}, (l.foldl f st).2 = false → l.foldl f st = st ∧ ∀ x ∈ l, f st x = st
  | [], st, _ => ⟨rfl, fun x hx => by cases hx⟩
  | a :: l, st, h => by
    rw [List.foldl_cons] at h ⊢
    obtain ⟨h1, h2⟩ := fold_quiet hq h
    rw [h1] at h ⊢
    have h3 := hq st a h
    rw [h3] at h2
    refine ⟨h3, fun x hx => ?_⟩
    rcases List.mem_cons.mp hx with rfl | hx
    · exact h3
    · exact h2 x hx
end
theorem rounds_fix {α : Type} {f : α → α × Bool} (P : α → Prop) (μ : α → Nat) (h : ∀ m, P m → P (f m).1 ∧ ((f m).2 = true → μ (f m).1 < μ m) ∧ ((f m).2 = false → (f m).1 = m)) :
    ∀ (n : Nat) (m : α), P m → μ m < n → P (rounds f n m) ∧ (f (rounds f n m)).2 = false
  | 0, m, _, hm => absurd hm (Nat.not_lt_zero _)
  | n + 1, m, hp, hm => by
    obtain ⟨h1, h2, h3⟩ := h m hp
    unfold rounds
    cases hb : (f m).2 with
    | true =>
      rw [if_pos rfl]
      have := h2 hb
      exact rounds_fix P μ h n (f m).1 h1 (by omega)
    | false =>
      rw [if_neg Bool.false_ne_true, h3 hb]
      exact ⟨hp, hb⟩
theorem llStep_quiet (st : List (Nat × Nat) × Bool) (r : Rule) (h : (llStep st r).2 = false) : llStep st r = st := by
  unfold llStep at h ⊢
  split
  · split
    · rename_i h1 h2
      rw [if_pos h1, if_pos h2] at h
      cases h
    · rfl
  · rfl
section
variable {rules : List Rule}
theorem ll_fin (hr : RulesOk rules) : LLok (leastLengths rules) ∧ (llRound rules (leastLengths rules)).2 = false := by
  refine rounds_fix (f := llRound rules) LLok mu (fun m hm => ?_) llFuel [] LLok.nil (Nat.lt_succ_self _)
  obtain ⟨h1, h2, h3, h4⟩ := llFold (rules := rules) (m, false) (fun r hx => ⟨(hr r hx).1, (hr r hx).2.1⟩) hm
  exact ⟨h1, h3 rfl, fun h => by rw [show llRound rules m = _ from h4 h]⟩
/-- every rule whose names have lengths has a length no greater than its total -/
theorem ll_fix (hr : RulesOk rules) {r : Rule} (hm : r ∈ rules) (ha : allIn (leastLengths rules) r.2 = true) : ∃ x, aGet (leastLengths rules) r.1 = some x ∧ x ≤ total (leastLengths rules) r.2 := by
  obtain ⟨_, h2⟩ := ll_fin hr
  have := (fold_quiet llStep_quiet h2).2 r hm
  unfold llStep at this
  rw [show allIn (leastLengths rules, false).1 r.2 = true from ha, if_pos rfl] at this
  cases hb : better (leastLengths rules) r with
  | true =>
    rw [show better (leastLengths rules, false).1 r = true from hb, if_pos rfl] at this
    have := congrArg Prod.snd this
    cases this
  | false =>
    unfold better at hb
    cases q : aGet (leastLengths rules) r.1 with
    | none => rw [q] at hb; cases hb
    | some x =>
      rw [q] at hb
      have := of_decide_eq_false hb
      exact ⟨x, rfl, by omega⟩
theorem useful_mem {root n : Nat} {lens : List (Nat × Nat)} : n ∈ usefulNumbers rules root lens ↔ ∃ r, rules[n]? = some r ∧ usefulAt (reached rules root lens) lens r = true := by
  unfold usefulNumbers
  rw [List.mem_map]
  constructor
  · rintro ⟨⟨r, m⟩, h1, rfl⟩
    rw [List.mem_filter] at h1
    obtain ⟨h1, h2⟩ := h1
    rw [List.mem_iff_getElem?] at h1
    obtain ⟨i, h1⟩ := h1
    rw [List.getElem?_zipIdx] at h1
    cases q : rules[i]? with
    | none => rw [q] at h1; cases h1
    | some x =>
      rw [q] at h1
      have e := Option.some.inj h1
      simp at e
      obtain ⟨rfl, rfl⟩ := e
      exact ⟨x, q, h2⟩
  · rintro ⟨r, h1, h2⟩
    refine ⟨(r, n), List.mem_filter.mpr ⟨?_, h2⟩, rfl⟩
    rw [List.mem_iff_getElem?]
    exact ⟨n, by rw [List.getElem?_zipIdx, h1]; simp⟩
theorem useful_len {root : Nat} {lens : List (Nat × Nat)} : (usefulNumbers rules root lens).length ≤ rules.length := by
  unfold usefulNumbers
  rw [List.length_map]
  have := List.length_filter_le (fun p : Rule × Nat => usefulAt (reached rules root lens) lens p.1) rules.zipIdx
  rw [List.length_zipIdx] at this
  exact this
end
namespace Gram.Ok
variable {g : Gram}
theorem rule (h : g.Ok) {n : Nat} (hn : n ∈ g.useful) : ∃ r, g.rules[n]? = some r ∧ RuOk g.lens r := by
  obtain ⟨r, h1, h2⟩ := useful_mem.mp hn
  have hm := List.mem_of_getElem? h1
  obtain ⟨a, b, c⟩ := h.rok r hm
  unfold usefulAt at h2
  rw [Bool.and_eq_true] at h2
  obtain ⟨x, hx, _⟩ := ll_fix h.rok hm h2.2
  exact ⟨r, h1, a, b, c, h2.2, by show (aGet (leastLengths g.rules) r.1).isSome = true; rw [hx]; rfl, h.short n hn r h1⟩
theorem bestOk (h : g.Ok) : LDok g.lens g.best := by
  have := (rounds_fix (f := ldRound g.rules g.lens g.useful) (LDok g.lens) muD (fun m hm => ?_) ldFuel [] (LDok.nil _) (Nat.lt_succ_self _)).1
  · exact this
  · obtain ⟨h1, h2, h3, h4⟩ := ldFold (rules := g.rules) (lens := g.lens) (numbers := g.useful) (m, false) (fun n hn => h.rule hn) hm
    exact ⟨h1, h3 rfl, fun q => by rw [show ldRound g.rules g.lens g.useful m = _ from h4 q]⟩
end Gram.Ok
end SF
namespace SF
/-- the body derives the string of signs -/
inductive DerW (rules : List Rule) : List Nat → List Nat → Prop
  | nil : DerW rules [] []
  | sign {c b w} : nam c = false → DerW rules b w → DerW rules (c :: b) (c :: w)
  | name {r b w1 w2} : r ∈ rules → nam r.1 = true → DerW rules r.2 w1 → DerW rules b w2 → DerW rules (r.1 :: b) (w1 ++ w2)
section
variable {rules : List Rule}
theorem DerW.app : ∀ {a w : List Nat}, DerW rules a w → ∀ {b w2 : List Nat}, DerW rules b w2 → DerW rules (a ++ b) (w ++ w2) := by
  intro a w h
  induction h with
  | nil => intro b w2 h2; exact h2
  | sign hc _ ih => intro b w2 h2; exact .sign hc (ih h2)
  | name hr hn h1 _ _ ih2 =>
    intro b w2 h2
    rw [List.append_assoc]
    exact .name hr hn h1 (ih2 h2)
/-- lengths that derivations have -/
def LSound (rules : List Rule) (m : List (Nat × Nat)) : Prop := ∀ c x, aGet m c = some x → ∃ w, DerW rules [c] w ∧ w.length = x
theorem LSound.body {m : List (Nat × Nat)} (h : LSound rules m) : ∀ {b : List Nat}, allIn m b = true → ∃ w, DerW rules b w ∧ w.length = total m b
  | [], _ => ⟨[], .nil, rfl⟩
  | c :: b, hb => by
    obtain ⟨h1, h2⟩ := allIn_cons.mp hb
    obtain ⟨w, d, e⟩ := LSound.body h h2
    rw [total_cons]
    by_cases hn : nam c = true
    · rw [if_pos hn]
      cases q : aGet m c with
      | none => have := h1 hn; rw [q] at this; cases this
      | some x =>
        obtain ⟨w1, d1, e1⟩ := h c x q
        refine ⟨w1 ++ w, d1.app d, ?_⟩
        rw [List.length_append, e1, e]
        rfl
    · rw [if_neg hn]
      refine ⟨c :: w, .sign (by simpa using hn) d, ?_⟩
      rw [List.length_cons, e, Nat.add_comm]
theorem ll_sound (hr : RulesOk rules) : LSound rules (leastLengths rules) := by
  have key : ∀ (l : List Rule) (st : List (Nat × Nat) × Bool), (∀ r ∈ l, r ∈ rules) → LSound rules st.1 → LSound rules (l.foldl llStep st).1 := by
    intro l
    induction l with
    | nil => intro st _ h; exact h
    | cons r l ih =>
      intro st hl h
      rw [List.foldl_cons]
      refine ih _ (fun x hx => hl x (List.mem_cons_of_mem _ hx)) ?_
      unfold llStep
      split
      · rename_i ha
        split
        · intro c x hx
          rw [aGet_put] at hx
          split at hx
          · rename_i e
            subst e
            cases hx
            obtain ⟨w, d, e⟩ := h.body ha
            have hm := hl r List.mem_cons_self
            refine ⟨w ++ [], .name hm (hr r hm).1 d .nil, by rw [List.append_nil]; exact e⟩
          · exact h c x hx
        · exact h
      · exact h
  have key2 : ∀ (n : Nat) (m : List (Nat × Nat)), LSound rules m → LSound rules (rounds (llRound rules) n m) := by
    intro n
    induction n with
    | zero => intro m h; exact h
    | succ n ih =>
      intro m h
      have h2 : LSound rules (llRound rules m).1 := key rules (m, false) (fun _ h => h) h
      unfold rounds
      split
      · exact ih _ h2
      · exact h2
  exact key2 _ _ (fun c x h => by cases h)
theorem ll_least (hr : RulesOk rules) : ∀ {b w : List Nat}, DerW rules b w → allIn (leastLengths rules) b = true ∧ total (leastLengths rules) b ≤ w.length := by
  intro b w h
  induction h with
  | nil => exact ⟨rfl, Nat.le_refl _⟩
  | sign hc _ ih =>
    refine ⟨allIn_cons.mpr ⟨fun z => (by rw [hc] at z; cases z), ih.1⟩, ?_⟩
    rw [total_cons, if_neg (by rw [hc]; exact Bool.false_ne_true), List.length_cons]
    have := ih.2
    omega
  | name hm hn _ _ ih1 ih2 =>
    obtain ⟨x, hx, hle⟩ := ll_fix hr hm ih1.1
    refine ⟨allIn_cons.mpr ⟨fun _ => by rw [hx]; rfl, ih2.1⟩, ?_⟩
    rw [total_cons, if_pos hn, hx, List.length_append]
    have h1 := ih1.2
    have h2 := ih2.2
    show x + _ ≤ _
    omega
/-! ### the reached names are closed -/
section
variable {α : Type} {lens : List (Nat × α)}
def ClosedAt (rules : List Rule) (lens : List (Nat × α)) (re : List Nat) (c : Nat) : Prop := ∀ r ∈ rules, r.1 = c → allIn lens r.2 = true → ∀ x ∈ namesIn r.2, x ∈ re
theorem uFold_closed {c : Nat} : ∀ {l : List Rule} {re : List Nat}, ∀ r ∈ l, r.1 = c → allIn lens r.2 = true → ∀ x ∈ namesIn r.2, x ∈ l.foldl (uStep lens c) re
  | [], _, r, hr, _, _, _, _ => by cases hr
  | a :: l, re, r, hr, hc, ha, x, hx => by
    rw [List.foldl_cons]
    rcases List.mem_cons.mp hr with rfl | hr
    · have h1 : x ∈ uStep lens c re r := by
        unfold uStep
        rw [if_pos ⟨hc, ha⟩]
        by_cases h : x ∈ re
        · exact List.mem_append_left _ h
        · exact List.mem_append_right _ (List.mem_filter.mpr ⟨sortedNames_mem.mpr hx, by simp [h]⟩)
      exact (uFold_pre (lens := lens) (c := c) (rules := l) (re := uStep lens c re r)).subset h1
    · exact uFold_closed r hr hc ha x hx
theorem ureach_ok : ∀ (n : Nat) (re : List Nat) (i : Nat), NmOk re → 27 ≤ n + i → (∀ j c, j < i → re[j]? = some c → ClosedAt rules lens re c) → re <+: ureach rules lens n re i ∧ NmOk (ureach rules lens n re i) ∧ ∀ c ∈ ureach rules lens n re i, ClosedAt rules lens (ureach rules lens n re i) c
  | 0, re, i, hn, hi, hc => by
    refine ⟨List.prefix_refl _, hn, fun c hm => ?_⟩
    obtain ⟨j, hj⟩ := List.mem_iff_getElem?.mp hm
    have h1 := hn.few
    have h2 : j < re.length := (List.getElem?_eq_some_iff.mp hj).1
    exact hc j c (by omega) hj
  | n + 1, re, i, hn, hi, hc => by
    cases q : re[i]? with
    | none =>
      rw [ureach_none q]
      refine ⟨List.prefix_refl _, hn, fun c hm => ?_⟩
      obtain ⟨j, hj⟩ := List.mem_iff_getElem?.mp hm
      have h2 := (List.getElem?_eq_some_iff.mp hj).1
      have h3 := List.getElem?_eq_none_iff.mp q
      exact hc j c (by omega) hj
    | some c =>
      rw [ureach_some q]
      have hpre := uFold_pre (lens := lens) (c := c) (rules := rules) (re := re)
      have hlt := (List.getElem?_eq_some_iff.mp q).1
      have ih := ureach_ok n (rules.foldl (uStep lens c) re) (i + 1) (uFold_ok hn) (by omega) (fun j d hj hd r hr hrd ha x hx => by
        have hjl : j < re.length := by omega
        have hd' : re[j]? = some d := by
          obtain ⟨t, ht⟩ := hpre
          rw [← ht, List.getElem?_append_left hjl] at hd
          exact hd
        by_cases e : j = i
        · subst e
          rw [q] at hd'
          cases hd'
          exact uFold_closed r hr hrd ha x hx
        · exact hpre.subset (hc j d (by omega) hd' r hr hrd ha x hx))
      exact ⟨hpre.trans ih.1, ih.2⟩
theorem reached_ok {root : Nat} (hroot : nam root = true) : root ∈ reached rules root lens ∧ NmOk (reached rules root lens) ∧ ∀ c ∈ reached rules root lens, ClosedAt rules lens (reached rules root lens) c := by
  have h := ureach_ok (rules := rules) (lens := lens) 27 [root] 0 ⟨by simp, by simpa using hroot⟩ (by omega) (fun j c hj => absurd hj (Nat.not_lt_zero _))
  exact ⟨h.1.subset (by simp), h.2.1, h.2.2⟩
end
end
theorem ldStep_quiet {rules : List Rule} {lens : List (Nat × Nat)} (st : Best × Bool) (n : Nat) (h : (ldStep rules lens st n).2 = false) : ldStep rules lens st n = st := by
  unfold ldStep at h ⊢
  split
  · rfl
  · rename_i r e
    rw [e] at h
    dsimp only at h
    split
    · rename_i h1
      rw [if_pos h1] at h
      split
      · rename_i h2
        rw [if_pos h2] at h
        cases h
      · rfl
    · rfl
/-! ### a grammar all of whose useful rules are short -/
structure PreOk (g : Gram) : Prop where
  few : 1 ≤ g.rules.length ∧ g.rules.length ≤ 16
  rok : RulesOk g.rules
  here : g.root ∈ g.rules.map (·.1)
  ends : (aGet g.lens g.root).isSome = true
  short : ∀ n ∈ g.useful, ∀ r, g.rules[n]? = some r → (aGet g.lens r.1).getD 0 ≤ 24
namespace PreOk
variable {g : Gram}
theorem nroot (h : PreOk g) : nam g.root = true := by
  obtain ⟨r, hr, e⟩ := List.mem_map.mp h.here
  rw [← e]
  exact (h.rok r hr).1
theorem rule (h : PreOk g) {n : Nat} (hn : n ∈ g.useful) : ∃ r, g.rules[n]? = some r ∧ RuOk g.lens r := by
  obtain ⟨r, h1, h2⟩ := useful_mem.mp hn
  have hm := List.mem_of_getElem? h1
  obtain ⟨a, b, c⟩ := h.rok r hm
  unfold usefulAt at h2
  rw [Bool.and_eq_true] at h2
  obtain ⟨x, hx, _⟩ := ll_fix h.rok hm h2.2
  exact ⟨r, h1, a, b, c, h2.2, by show (aGet (leastLengths g.rules) r.1).isSome = true; rw [hx]; rfl, h.short n hn r h1⟩
theorem bestOk (h : PreOk g) : LDok g.lens g.best ∧ (ldRound g.rules g.lens g.useful g.best).2 = false := by
  refine rounds_fix (f := ldRound g.rules g.lens g.useful) (LDok g.lens) muD (fun m hm => ?_) ldFuel [] (LDok.nil _) (Nat.lt_succ_self _)
  obtain ⟨h1, h2, h3, h4⟩ := ldFold (rules := g.rules) (lens := g.lens) (numbers := g.useful) (m, false) (fun n hn => h.rule hn) hm
  exact ⟨h1, h3 rfl, fun q => by rw [show ldRound g.rules g.lens g.useful m = _ from h4 q]⟩
/-- a rule of a reached name whose names have least derivations, and whose total is its name's least length: its name has one, and none is better -/
theorem bestFix (h : PreOk g) {n : Nat} {r : Rule} (hr : g.rules[n]? = some r) (hc : r.1 ∈ reached g.rules g.root g.lens) (hd : ldDue g.lens g.best r = true) : ldBetter g.best r = false := by
  have h2 := h.bestOk.2
  have hal : allIn g.lens r.2 = true := by
    have hm := List.mem_of_getElem? hr
    unfold ldDue at hd
    rw [Bool.and_eq_true] at hd
    refine List.all_eq_true.mpr fun c hcm => ?_
    have := List.all_eq_true.mp hd.2 c hcm
    refine h.bestOk.1.hl c ?_
    exact Decidable.byContradiction fun z => by rw [aGet_none.mpr z] at this; cases this
  have hn : n ∈ g.useful := useful_mem.mpr ⟨r, hr, by unfold usefulAt; rw [decide_eq_true hc, hal]; rfl⟩
  have := (fold_quiet ldStep_quiet h2).2 n hn
  cases hb : ldBetter g.best r with
  | false => rfl
  | true =>
    rw [ldStep_yes (st := (g.best, false)) hr hd hb] at this
    have := congrArg Prod.snd this
    cases this
/-- every reached name with a length has a least derivation -/
theorem best_all (h : PreOk g) : ∀ {b w : List Nat}, DerW g.rules b w → (∀ c ∈ namesIn b, c ∈ reached g.rules g.root g.lens) → total g.lens b = w.length → allIn g.best b = true := by
  intro b w hd
  induction hd with
  | nil => intro _ _; rfl
  | sign hc hb ih =>
    rename_i c b w
    intro hre ht
    refine allIn_cons.mpr ⟨fun z => (by rw [hc] at z; cases z), ih (fun x hx => hre x ?_) ?_⟩
    · unfold namesIn at hx ⊢
      rw [List.filter_cons, if_neg (by rw [hc]; exact Bool.false_ne_true)]
      exact hx
    · rw [total_cons, if_neg (by rw [hc]; exact Bool.false_ne_true), List.length_cons] at ht
      omega
  | name hm hn h1 h2 ih1 ih2 =>
    rename_i r b w1 w2
    intro hre ht
    have l1 := ll_least h.rok h1
    have l2 := ll_least h.rok h2
    obtain ⟨x, hx, hle⟩ := ll_fix h.rok hm l1.1
    rw [total_cons, if_pos hn, show aGet g.lens r.1 = some x from hx, List.length_append] at ht
    have e1 : total g.lens r.2 = w1.length := by
      have a1 := l1.2; have a2 := l2.2
      have b1 : total g.lens r.2 = total (leastLengths g.rules) r.2 := rfl
      have b2 : total g.lens b = total (leastLengths g.rules) b := rfl
      have ht' : x + total g.lens b = w1.length + w2.length := ht
      omega
    have e2 : total g.lens b = w2.length := by
      have a1 := l1.2; have a2 := l2.2
      have b1 : total g.lens r.2 = total (leastLengths g.rules) r.2 := rfl
      have b2 : total g.lens b = total (leastLengths g.rules) b := rfl
      have ht' : x + total g.lens b = w1.length + w2.length := ht
      omega
    have ex : total g.lens r.2 = x := by
      have a1 := l1.2; have a2 := l2.2
      have b1 : total g.lens r.2 = total (leastLengths g.rules) r.2 := rfl
      have ht' : x + total g.lens b = w1.length + w2.length := ht
      omega
    have hrc : r.1 ∈ reached g.rules g.root g.lens := hre r.1 (by unfold namesIn; rw [List.filter_cons, if_pos hn]; exact List.mem_cons_self)
    have hcl := (reached_ok (rules := g.rules) (lens := g.lens) h.nroot).2.2 r.1 hrc r hm rfl l1.1
    have a1 := ih1 hcl e1
    have a2 := ih2 (fun c hc => hre c (by unfold namesIn at hc ⊢; rw [List.filter_cons, if_pos hn]; exact List.mem_cons_of_mem _ hc)) e2
    obtain ⟨i, hi⟩ := List.mem_iff_getElem?.mp hm
    have hdue : ldDue g.lens g.best r = true := by
      unfold ldDue
      rw [a1, ex, show aGet g.lens r.1 = some x from hx]
      simp
    have hb := h.bestFix hi hrc hdue
    refine allIn_cons.mpr ⟨fun _ => ?_, a2⟩
    unfold ldBetter at hb
    cases q : aGet g.best r.1 with
    | none => rw [q] at hb; cases hb
    | some t => rfl
theorem root_best (h : PreOk g) : (aGet g.best g.root).isSome = true := by
  cases q : aGet g.lens g.root with
  | none => have := h.ends; rw [q] at this; cases this
  | some x =>
    obtain ⟨w, d, e⟩ := ll_sound h.rok g.root x q
    have hre := (reached_ok (rules := g.rules) (lens := g.lens) h.nroot).1
    have := h.best_all d (fun c hc => by
      unfold namesIn at hc
      have := (List.mem_filter.mp hc).1
      simp at this
      subst this
      exact hre) (by rw [total_cons, if_pos h.nroot, q, e]; show x + 0 = x; omega)
    exact (allIn_cons.mp this).1 h.nroot
theorem ok (h : PreOk g) (hfast : ∀ c t, aGet g.best c = some t → t.a ≤ 100) : g.Ok := by
  refine ⟨h.few, h.rok, h.here, h.ends, ?_, h.short, ?_, hfast⟩
  · cases q : aGet g.lens g.root with
    | none => have := h.ends; rw [q] at this; cases this
    | some x =>
      obtain ⟨w, d, e⟩ := ll_sound h.rok g.root x q
      obtain ⟨c0, hc0⟩ : ∃ c0, c0 = g.root := ⟨_, rfl⟩
      rw [← hc0] at d
      cases d with
      | sign hc _ => rw [hc0, h.nroot] at hc; cases hc
      | name hm hn h1 h2 =>
        rename_i r w1 w2
        obtain ⟨i, hi⟩ := List.mem_iff_getElem?.mp hm
        have hre := (reached_ok (rules := g.rules) (lens := g.lens) h.nroot).1
        intro he
        have : i ∈ g.useful := useful_mem.mpr ⟨r, hi, by unfold usefulAt; rw [hc0, decide_eq_true hre, show allIn g.lens r.2 = true from (ll_least h.rok h1).1]; rfl⟩
        rw [he] at this
        cases this
  · intro he
    have := h.root_best
    rw [he] at this
    cases this
end PreOk
end SF
namespace SF
def lawStep (st : List Nat × Int × Nat) (k : Nat) : List Nat × Int × Nat :=
  if 0 < st.2.1 then (st.1 ++ [(st.2.1 % 100).toNat], st.2.1 / 100, (st.2.2 * 137 + 71 + k) % 10007)
  else (st.1 ++ [(st.2.2 * 137 + 71 + k) % 10007 / 7 % 100], st.2.1, (st.2.2 * 137 + 71 + k) % 10007)
def lawSt (c : Int) (n : Nat) : List Nat × Int × Nat := (List.range n).foldl lawStep ([], c - 10 ^ 18, (c % 10007).toNat)
def draws (c : Int) (n : Nat) : List Nat := (lawSt c n).1
theorem lawSt_succ (c : Int) (n : Nat) : lawSt c (n + 1) = lawStep (lawSt c n) n := by unfold lawSt; rw [List.range_succ, List.foldl_append]; rfl
theorem draws_len (c : Int) : ∀ n, (draws c n).length = n
  | 0 => rfl
  | n + 1 => by
    have ih := draws_len c n
    unfold draws at ih ⊢
    rw [lawSt_succ]
    unfold lawStep
    split <;> simp [ih]
theorem lawSt_mixed (c : Int) (n : Nat) : (lawSt c n).2.2 < 10007 := by
  cases n with
  | zero =>
    show (c % 10007).toNat < 10007
    omega
  | succ n =>
    rw [lawSt_succ]
    unfold lawStep
    split <;> exact Nat.mod_lt _ (by decide)
theorem draws_lt (c : Int) : ∀ n, ∀ x ∈ draws c n, x < 100
  | 0, x, hx => by cases hx
  | n + 1, x, hx => by
    have ih := draws_lt c n
    unfold draws at ih hx
    rw [lawSt_succ] at hx
    unfold lawStep at hx
    split at hx
    · rcases List.mem_append.mp hx with h | h
      · exact ih x h
      · simp at h
        subst h
        omega
    · rcases List.mem_append.mp hx with h | h
      · exact ih x h
      · simp at h
        subst h
        omega
/-- the i-th draw -/
def dg (d : List Nat) (i : Nat) : Nat := d[i]?.getD 0
def lawNames (d : List Nat) : List Nat := (List.range (1 + dg d 2 % 3)).map fun k => 65 + (dg d 0 + k * (1 + dg d 1 % 12)) % 26
def lawSigns (d : List Nat) : List Nat := (List.range (1 + dg d 5 % 3)).map fun k => dg SIGNSl ((dg d 3 + k * (1 + dg d 4 % 17)) % 52)
/-- the place n, counted round -/
def rd (l : List Nat) (n : Nat) : Nat := dg l (n % l.length)
def lawKnown (n : Nat) (names signs : List Nat) : List Rule :=
  let s := dg names 0; let a := rd names 1; let b := rd names 2; let x := dg signs 0; let y := rd signs 1; let z := rd signs 2
  ([[(s, [x, s, y])], [(s, [x, s, y, s])], [(s, [a, z, s]), (s, [a]), (a, [x, s, y])], [(s, [x, s, x]), (s, [y, s, y])], [(s, [a, b]), (a, [x, a]), (b, [b, y])], [(s, [s, s]), (s, [x, s, y])],
    [(s, [x, a]), (a, [y, s]), (a, [z, b]), (b, [x, b])], [(s, [a, x, b]), (a, [b, a]), (b, [y])]] : List (List Rule))[n % 8]?.getD []
def insAt {α : Type} (l : List α) (i : Nat) (x : α) : List α := l.take i ++ [x] ++ l.drop i
def lawBody (d : List Nat) (parts : List Nat) (at_ : Nat) : List Nat := (List.range (dg d (at_ + 1) % 4)).map fun j => rd parts (dg d (at_ + 2 + j))
def lawRules0 (d names signs : List Nat) : List Rule :=
  if dg d 6 % 3 = 0 then lawKnown (dg d 7) names signs
  else (List.range (dg d 6 / 3 % 6)).map fun k => (rd names (dg d (8 + 5 * k)), lawBody d (names ++ signs) (8 + 5 * k))
def lawEnding (d signs : List Nat) (at_ : Nat) : List Nat :=
  ([[], [rd signs (dg d (at_ + 1))], [rd signs (dg d (at_ + 1)), rd signs (dg d (at_ + 1) / 10)], [rd signs (dg d (at_ + 1))]] : List (List Nat))[dg d at_ % 4]?.getD []
def lawEnd (d names signs : List Nat) (rules : List Rule) (k : Nat) : List Rule :=
  if k = 0 ∨ dg d (33 + 3 * k) % 4 < 3 then insAt rules (dg d (33 + 3 * k + 2) % (rules.length + 1)) (dg names k, lawEnding d signs (33 + 3 * k)) else rules
def lawGrammar (d : List Nat) : List Rule := (List.range (lawNames d).length).foldl (lawEnd d (lawNames d) (lawSigns d)) (lawRules0 d (lawNames d) (lawSigns d))
/-! ### what holds of them -/
theorem lawNames_len (d : List Nat) : 1 ≤ (lawNames d).length ∧ (lawNames d).length ≤ 3 := by
  unfold lawNames
  rw [List.length_map, List.length_range]
  omega
theorem lawSigns_len (d : List Nat) : 1 ≤ (lawSigns d).length ∧ (lawSigns d).length ≤ 3 := by
  unfold lawSigns
  rw [List.length_map, List.length_range]
  omega
theorem lawNames_nam (d : List Nat) : ∀ c ∈ lawNames d, nam c = true := fun c hc => by
  obtain ⟨k, _, rfl⟩ := List.mem_map.mp hc
  rw [nam_iff]
  omega
theorem dg_mem {l : List Nat} {i : Nat} (h : i < l.length) : dg l i ∈ l := by
  unfold dg
  rw [List.getElem?_eq_getElem h]
  exact List.getElem_mem h
theorem rd_mem {l : List Nat} {n : Nat} (h : 1 ≤ l.length) : rd l n ∈ l := dg_mem (Nat.mod_lt _ h)
theorem lawSigns_sgn (d : List Nat) : ∀ c ∈ lawSigns d, sgn c = true := fun c hc => by
  obtain ⟨k, _, rfl⟩ := List.mem_map.mp hc
  have : dg SIGNSl ((dg d 3 + k * (1 + dg d 4 % 17)) % 52) ∈ SIGNSl := dg_mem (by show _ < 52; omega)
  unfold sgn
  exact decide_eq_true this
/-- what a drawn list of rules keeps -/
structure RuD (names : List Nat) (r : Rule) : Prop where
  hd : r.1 ∈ names
  bd : ∀ c ∈ r.2, sgn c = true ∨ c ∈ names
  few : r.2.length ≤ 4
  less : r.1 ≠ dg names 0 → r.2.length ≤ 3
structure Drawn (names : List Nat) (rules : List Rule) : Prop where
  ru : ∀ r ∈ rules, RuD names r
  en : ∃ r ∈ rules, r.1 = dg names 0 ∧ r.2.length ≤ 2 ∧ ∀ c ∈ r.2, sgn c = true
section
variable {names signs : List Nat} (hn : 1 ≤ names.length) (hs : 1 ≤ signs.length) (hsg : ∀ c ∈ signs, sgn c = true)
include hn hs hsg
theorem known_ok (n : Nat) : ∀ r ∈ lawKnown n names signs, RuD names r := by
  have m0 : dg names 0 ∈ names := dg_mem hn
  have m1 : rd names 1 ∈ names := rd_mem hn
  have m2 : rd names 2 ∈ names := rd_mem hn
  have x0 : sgn (dg signs 0) = true := hsg _ (dg_mem hs)
  have x1 : sgn (rd signs 1) = true := hsg _ (rd_mem hs)
  have x2 : sgn (rd signs 2) = true := hsg _ (rd_mem hs)
  have h8 : n % 8 < 8 := Nat.mod_lt _ (by decide)
  unfold lawKnown
  dsimp only
  generalize n % 8 = i at h8
  generalize dg signs 0 = x at *
  generalize rd signs 1 = y at *
  generalize rd signs 2 = z at *
  generalize rd names 1 = a at *
  generalize rd names 2 = b at *
  have hcase : i = 0 ∨ i = 1 ∨ i = 2 ∨ i = 3 ∨ i = 4 ∨ i = 5 ∨ i = 6 ∨ i = 7 := by omega
  intro r hr
  rcases hcase with rfl | rfl | rfl | rfl | rfl | rfl | rfl | rfl
  all_goals
    simp only [List.getElem?_cons_zero, List.getElem?_cons_succ, Option.getD_some, List.mem_cons, List.not_mem_nil, or_false] at hr
  all_goals
    (repeat' (rcases hr with hr | hr))
  all_goals
    (try subst hr
     refine ⟨by assumption, fun c hc => ?_, by simp, fun hne => by first | (exact absurd rfl hne) | simp⟩)
  all_goals
    simp only [List.mem_cons, List.not_mem_nil, or_false] at hc
  all_goals
    (repeat' (rcases hc with hc | hc))
  all_goals
    (try subst hc
     first | (exact Or.inr (by assumption)) | (exact Or.inl (by assumption)))
theorem rules0_ok (d : List Nat) : ∀ r ∈ lawRules0 d names signs, RuD names r := by
  unfold lawRules0
  split
  · exact known_ok hn hs hsg _
  · intro r hr
    obtain ⟨k, _, rfl⟩ := List.mem_map.mp hr
    have hlen : (lawBody d (names ++ signs) (8 + 5 * k)).length ≤ 3 := by
      unfold lawBody
      rw [List.length_map, List.length_range]
      omega
    refine ⟨rd_mem hn, fun c hc => ?_, by show (lawBody _ _ _).length ≤ 4; omega, fun _ => hlen⟩
    obtain ⟨j, _, rfl⟩ := List.mem_map.mp hc
    have hm : rd (names ++ signs) (dg d (8 + 5 * k + 2 + j)) ∈ names ++ signs := rd_mem (by rw [List.length_append]; omega)
    rcases List.mem_append.mp hm with h | h
    · exact .inr h
    · exact .inl (hsg _ h)
theorem rules0_len (d : List Nat) : (lawRules0 d names signs).length ≤ 5 := by
  unfold lawRules0
  split
  · unfold lawKnown
    dsimp only
    have h8 : dg d 7 % 8 < 8 := Nat.mod_lt _ (by decide)
    generalize dg d 7 % 8 = i at h8
    have hcase : i = 0 ∨ i = 1 ∨ i = 2 ∨ i = 3 ∨ i = 4 ∨ i = 5 ∨ i = 6 ∨ i = 7 := by omega
    rcases hcase with rfl | rfl | rfl | rfl | rfl | rfl | rfl | rfl <;> simp
  · rw [List.length_map, List.length_range]
    omega
theorem ending_ok (d : List Nat) (at_ : Nat) : (lawEnding d signs at_).length ≤ 2 ∧ ∀ c ∈ lawEnding d signs at_, sgn c = true := by
  have x1 : sgn (rd signs (dg d (at_ + 1))) = true := hsg _ (rd_mem hs)
  have x2 : sgn (rd signs (dg d (at_ + 1) / 10)) = true := hsg _ (rd_mem hs)
  unfold lawEnding
  have h4 : dg d at_ % 4 < 4 := Nat.mod_lt _ (by decide)
  generalize dg d at_ % 4 = i at h4
  have hcase : i = 0 ∨ i = 1 ∨ i = 2 ∨ i = 3 := by omega
  rcases hcase with rfl | rfl | rfl | rfl
  · exact ⟨by simp, fun c hc => by simp at hc⟩
  · exact ⟨by simp, fun c hc => by simp at hc; subst hc; exact x1⟩
  · refine ⟨by simp, fun c hc => ?_⟩
    simp at hc
    rcases hc with rfl | rfl
    · exact x1
    · exact x2
  · exact ⟨by simp, fun c hc => by simp at hc; subst hc; exact x1⟩
end
theorem insAt_mem {α : Type} {l : List α} {i : Nat} {x y : α} : y ∈ insAt l i x ↔ y = x ∨ y ∈ l := by
  unfold insAt
  have h : y ∈ l ↔ y ∈ l.take i ∨ y ∈ l.drop i := by rw [← List.mem_append, List.take_append_drop]
  rw [List.mem_append, List.mem_append, List.mem_singleton, h]
  constructor
  · rintro ((h | h) | h)
    · exact .inr (.inl h)
    · exact .inl h
    · exact .inr (.inr h)
  · rintro (h | h | h)
    · exact .inl (.inr h)
    · exact .inl (.inl h)
    · exact .inr h
theorem insAt_len {α : Type} {l : List α} {i : Nat} {x : α} (h : i ≤ l.length) : (insAt l i x).length = l.length + 1 := by
  unfold insAt
  simp
  omega
/-- the endings of the first k names -/
theorem ends_ok (d names signs : List Nat) (hn : 1 ≤ names.length) (hs : 1 ≤ signs.length) (hsg : ∀ c ∈ signs, sgn c = true) : ∀ k, k ≤ names.length →
    (∀ r ∈ (List.range k).foldl (lawEnd d names signs) (lawRules0 d names signs), RuD names r) ∧ ((List.range k).foldl (lawEnd d names signs) (lawRules0 d names signs)).length ≤ 5 + k ∧
    (1 ≤ k → ∃ r ∈ (List.range k).foldl (lawEnd d names signs) (lawRules0 d names signs), r.1 = dg names 0 ∧ r.2.length ≤ 2 ∧ ∀ c ∈ r.2, sgn c = true)
  | 0, _ => ⟨rules0_ok hn hs hsg d, rules0_len hn hs hsg d, fun h => absurd h (by decide)⟩
  | k + 1, hk => by
    obtain ⟨h1, h2, h3⟩ := ends_ok d names signs hn hs hsg k (by omega)
    rw [List.range_succ, List.foldl_append]
    show (∀ r ∈ lawEnd d names signs _ k, RuD names r) ∧ (lawEnd d names signs _ k).length ≤ _ ∧ (_ → ∃ r ∈ lawEnd d names signs _ k, _)
    generalize (List.range k).foldl (lawEnd d names signs) (lawRules0 d names signs) = rules at h1 h2 h3
    obtain ⟨e1, e2⟩ := ending_ok hn hs hsg d (33 + 3 * k)
    unfold lawEnd
    split
    · rename_i hc
      refine ⟨fun r hr => ?_, ?_, fun _ => ?_⟩
      · rcases insAt_mem.mp hr with rfl | hr
        · exact ⟨dg_mem (by omega), fun c hc => .inl (e2 c hc), by show (lawEnding _ _ _).length ≤ 4; omega, fun _ => by show (lawEnding _ _ _).length ≤ 3; omega⟩
        · exact h1 r hr
      · rw [insAt_len (by have := Nat.mod_lt (dg d (33 + 3 * k + 2)) (show rules.length + 1 > 0 by omega); omega)]
        omega
      · by_cases h0 : k = 0
        · subst h0
          exact ⟨_, insAt_mem.mpr (.inl rfl), rfl, e1, e2⟩
        · obtain ⟨r, hr, hh⟩ := h3 (by omega)
          exact ⟨r, insAt_mem.mpr (.inr hr), hh⟩
    · rename_i hc
      refine ⟨h1, by omega, fun _ => ?_⟩
      by_cases h0 : k = 0
      · exact absurd (.inl h0) hc
      · exact h3 (by omega)
theorem lawGrammar_ok (d : List Nat) : Drawn (lawNames d) (lawGrammar d) ∧ (lawGrammar d).length ≤ 8 := by
  obtain ⟨h1, h2⟩ := lawNames_len d
  obtain ⟨h3, h4⟩ := lawSigns_len d
  obtain ⟨a, b, c⟩ := ends_ok d (lawNames d) (lawSigns d) h1 h3 (lawSigns_sgn d) _ (Nat.le_refl _)
  refine ⟨⟨a, c h1⟩, ?_⟩
  have b' : (lawGrammar d).length ≤ 5 + (lawNames d).length := b
  omega
end SF
namespace SF
theorem total_bound {lens : List (Nat × Nat)} {B : Nat} (h1 : 1 ≤ B) : ∀ {b : List Nat}, (∀ c ∈ namesIn b, (aGet lens c).getD 0 ≤ B) → total lens b ≤ b.length * B
  | [], _ => by simp [total, namesIn]
  | c :: b, h => by
    have hsub : ∀ x ∈ namesIn b, (aGet lens x).getD 0 ≤ B := fun x hx => h x (by
      unfold namesIn at hx ⊢
      rw [List.filter_cons]
      split
      · exact List.mem_cons_of_mem _ hx
      · exact hx)
    have ih := total_bound h1 hsub
    rw [total_cons, List.length_cons, Nat.succ_mul]
    split
    · rename_i hn
      have := h c (by unfold namesIn; rw [List.filter_cons, if_pos hn]; exact List.mem_cons_self)
      omega
    · omega
/-- the keys stand in an order in which each one has a rule of names ahead of it -/
def Ranked (rules : List Rule) (m : List (Nat × Nat)) : Prop := ∀ i c, (m.map (·.1))[i]? = some c → ∃ r ∈ rules, r.1 = c ∧ ∀ x ∈ namesIn r.2, x ∈ (m.map (·.1)).take i
theorem ll_ranked (rules : List Rule) : Ranked rules (leastLengths rules) := by
  have key : ∀ (l : List Rule) (st : List (Nat × Nat) × Bool), (∀ r ∈ l, r ∈ rules) → Ranked rules st.1 → Ranked rules (l.foldl llStep st).1 := by
    intro l
    induction l with
    | nil => intro st _ h; exact h
    | cons r l ih =>
      intro st hl h
      rw [List.foldl_cons]
      refine ih _ (fun x hx => hl x (List.mem_cons_of_mem _ hx)) ?_
      unfold llStep
      split
      · rename_i ha
        split
        · intro i c hi
          show ∃ q ∈ rules, q.1 = c ∧ ∀ x ∈ namesIn q.2, x ∈ ((aPut st.1 r.1 (total st.1 r.2)).map (·.1)).take i
          have hi' : ((aPut st.1 r.1 (total st.1 r.2)).map (·.1))[i]? = some c := hi
          rw [aPut_keys] at hi' ⊢
          split at hi'
          · rename_i hs
            rw [if_pos hs]
            exact h i c hi'
          · rename_i hs
            rw [if_neg hs]
            by_cases hlt : i < (st.1.map (·.1)).length
            · rw [List.getElem?_append_left hlt] at hi'
              rw [List.take_append_of_le_length (by omega)]
              exact h i c hi'
            · have hle := (List.getElem?_eq_some_iff.mp hi').1
              rw [List.length_append] at hle
              have hie : i = (st.1.map (·.1)).length := by simp at hle hlt ⊢; omega
              subst hie
              rw [List.getElem?_append_right (Nat.le_refl _)] at hi'
              simp at hi'
              subst hi'
              refine ⟨r, hl r List.mem_cons_self, rfl, fun x hx => ?_⟩
              rw [List.take_append_of_le_length (Nat.le_refl _), List.take_length]
              have := List.all_eq_true.mp ha x hx
              exact Decidable.byContradiction fun z => by rw [aGet_none.mpr z] at this; cases this
        · exact h
      · exact h
  have key2 : ∀ (n : Nat) (m : List (Nat × Nat)), Ranked rules m → Ranked rules (rounds (llRound rules) n m) := by
    intro n
    induction n with
    | zero => intro m h; exact h
    | succ n ih =>
      intro m h
      have h2 : Ranked rules (llRound rules m).1 := key rules (m, false) (fun _ h => h) h
      unfold rounds
      split
      · exact ih _ h2
      · exact h2
  exact key2 _ _ (fun i c h => by simp at h)
section
variable {names : List Nat} {rules : List Rule}
theorem Drawn.rok (h : Drawn names rules) (hn : ∀ c ∈ names, nam c = true) : RulesOk rules := fun r hr => by
  have q := h.ru r hr
  refine ⟨hn _ q.hd, q.few, fun c hc => ?_⟩
  rw [Bool.or_eq_true]
  rcases q.bd c hc with z | z
  · exact .inl z
  · exact .inr (hn c z)
theorem sgn_not_nam {c : Nat} (h : sgn c = true) : nam c = false := by
  have : ∀ x ∈ SIGNSl, nam x = false := by decide
  exact this c (by simpa [sgn] using h)
theorem no_names {b : List Nat} (h : ∀ c ∈ b, sgn c = true) : namesIn b = [] := by
  unfold namesIn
  rw [List.filter_eq_nil_iff]
  intro c hc
  rw [sgn_not_nam (h c hc)]
  exact Bool.false_ne_true
theorem Drawn.bound (h : Drawn names rules) (hn : ∀ c ∈ names, nam c = true) : (∃ x, aGet (leastLengths rules) (dg names 0) = some x ∧ x ≤ 2) ∧
    ∀ i c, ((leastLengths rules).map (·.1))[i]? = some c → (aGet (leastLengths rules) c).getD 0 ≤ 2 * 3 ^ ((((leastLengths rules).map (·.1)).take (i + 1)).filter fun x => decide (x ≠ dg names 0)).length := by
  have hrok := h.rok hn
  have hroot : ∃ x, aGet (leastLengths rules) (dg names 0) = some x ∧ x ≤ 2 := by
    obtain ⟨r, hr, e1, e2, e3⟩ := h.en
    have hnn := no_names e3
    obtain ⟨x, hx, hle⟩ := ll_fix hrok hr (by unfold allIn; rw [hnn]; rfl)
    rw [e1] at hx
    refine ⟨x, hx, ?_⟩
    unfold total at hle
    rw [hnn] at hle
    simp at hle
    omega
  refine ⟨hroot, ?_⟩
  have hrk := ll_ranked rules
  intro i
  induction i using Nat.strongRecOn with
  | _ i ih =>
    intro c hc
    by_cases e : c = dg names 0
    · subst e
      obtain ⟨x, hx, hle⟩ := hroot
      rw [hx]
      have := Nat.pow_pos (n := ((((leastLengths rules).map (·.1)).take (i + 1)).filter fun x => decide (x ≠ dg names 0)).length) (show 0 < 3 by decide)
      show x ≤ _
      omega
    · obtain ⟨r, hr, e1, e2⟩ := hrk i c hc
      have hal : allIn (leastLengths rules) r.2 = true := List.all_eq_true.mpr fun x hx => by
        have := List.mem_of_mem_take (e2 x hx)
        cases q : aGet (leastLengths rules) x with
        | none => exact absurd this (aGet_none.mp q)
        | some y => rfl
      obtain ⟨x, hx, hle⟩ := ll_fix hrok hr hal
      rw [e1] at hx
      rw [hx]
      have h3 : r.2.length ≤ 3 := (h.ru r hr).less (by rw [e1]; exact e)
      have hstep : ((((leastLengths rules).map (·.1)).take (i + 1)).filter fun x => decide (x ≠ dg names 0)).length = ((((leastLengths rules).map (·.1)).take i).filter fun x => decide (x ≠ dg names 0)).length + 1 := by
        have : ((leastLengths rules).map (·.1)).take (i + 1) = ((leastLengths rules).map (·.1)).take i ++ [c] := by
          rw [List.take_add_one, hc]
          rfl
        rw [this, List.filter_append, List.length_append]
        simp [e]
      rw [hstep, Nat.pow_succ]
      have hB := total_bound (lens := leastLengths rules) (B := 2 * 3 ^ ((((leastLengths rules).map (·.1)).take i).filter fun x => decide (x ≠ dg names 0)).length) (by
        have := Nat.pow_pos (n := ((((leastLengths rules).map (·.1)).take i).filter fun x => decide (x ≠ dg names 0)).length) (show 0 < 3 by decide)
        omega) (b := r.2) (fun y hy => by
          obtain ⟨j, hj⟩ := List.mem_iff_getElem?.mp (e2 y hy)
          have hji : j < i := by
            have := (List.getElem?_eq_some_iff.mp hj).1
            rw [List.length_take] at this
            omega
          rw [List.getElem?_take, if_pos hji] at hj
          refine Nat.le_trans (ih j hji y hj) (Nat.mul_le_mul_left _ (Nat.pow_le_pow_right (by decide) ?_))
          refine List.Sublist.length_le (List.Sublist.filter _ ?_)
          exact (List.take_prefix_take_left (show j + 1 ≤ i by omega)).sublist)
      have h4 := Nat.mul_le_mul_right (2 * 3 ^ ((((leastLengths rules).map (·.1)).take i).filter fun x => decide (x ≠ dg names 0)).length) h3
      show x ≤ _
      omega
theorem Drawn.keys (h : Drawn names rules) (hn : ∀ c ∈ names, nam c = true) : ∀ c ∈ (leastLengths rules).map (·.1), c ∈ names := fun c hc => by
  obtain ⟨i, hi⟩ := List.mem_iff_getElem?.mp hc
  obtain ⟨r, hr, e, _⟩ := ll_ranked rules i c hi
  rw [← e]
  exact (h.ru r hr).hd
theorem Drawn.ok (h : Drawn names rules) (hn : ∀ c ∈ names, nam c = true) (hlen : names.length ≤ 3) (h16 : rules.length ≤ 16) : (Gram.mk rules (dg names 0)).Ok := by
  have hrok := h.rok hn
  obtain ⟨⟨x0, hx0, hle0⟩, hb⟩ := h.bound hn
  have hll := (ll_fin hrok).1
  obtain ⟨r0, hr0, e1, e2, e3⟩ := h.en
  have hroot : dg names 0 ∈ names := e1 ▸ (h.ru r0 hr0).hd
  have hshort : ∀ c, (aGet (leastLengths rules) c).getD 0 ≤ 24 := fun c => by
    cases q : aGet (leastLengths rules) c with
    | none => simp
    | some x =>
      have hc : c ∈ (leastLengths rules).map (·.1) := Decidable.byContradiction fun z => by rw [aGet_none.mpr z] at q; cases q
      obtain ⟨i, hi⟩ := List.mem_iff_getElem?.mp hc
      have := hb i c hi
      rw [q] at this
      have hcnt : ((((leastLengths rules).map (·.1)).take (i + 1)).filter fun x => decide (x ≠ dg names 0)).length ≤ 2 := by
        have h1 := nodup_le (l := (((leastLengths rules).map (·.1)).take (i + 1)).filter fun x => decide (x ≠ dg names 0)) (s := names.erase (dg names 0)) (List.Pairwise.filter _ (hll.nd.sublist (List.take_sublist _ _))) (fun y hy => by
          obtain ⟨h1, h2⟩ := List.mem_filter.mp hy
          exact (List.mem_erase_of_ne (of_decide_eq_true h2)).mpr (h.keys hn y (List.mem_of_mem_take h1)))
        rw [List.length_erase_of_mem hroot] at h1
        omega
      have h3 := Nat.pow_le_pow_right (show 0 < 3 by decide) hcnt
      show x ≤ 24
      have this' : x ≤ 2 * 3 ^ _ := this
      omega
  have pre : PreOk (Gram.mk rules (dg names 0)) := ⟨⟨List.length_pos_of_mem hr0, h16⟩, hrok, List.mem_map.mpr ⟨r0, hr0, e1⟩, by show (aGet (leastLengths rules) (dg names 0)).isSome = true; rw [hx0]; rfl, fun n _ r _ => hshort r.1⟩
  refine pre.ok fun c t ht => ?_
  have bok := pre.bestOk.1
  have h1 := bok.st c t ht
  have h2 : (Gram.mk rules (dg names 0)).best.length ≤ 3 := by
    have := nodup_le bok.nd (s := names) (fun y hy => by
      have := bok.hl y hy
      refine h.keys hn y (Decidable.byContradiction fun z => ?_)
      have e : aGet (Gram.mk rules (dg names 0)).lens y = none := aGet_none.mpr z
      rw [e] at this
      cases this)
    rw [List.length_map] at this
    omega
  have h3 := geo_mono h2
  have h4 : geo 3 = 21 := rfl
  omega
end
end SF
namespace SF
open PySem PySem.Spec PyProof.Rows L2
/-! ### expressions that make data: the objects they make are new and frozen -/
section
variable {α β : Type} {σ : L2.St} {F0 : Hp}
def Mkd (te : TE) (σ : L2.St) (r : Rl α) (x : α) (F0 : Hp) : Prop := ∀ (F H : Hp) (Q : V → Hp → Prop), Same F0 F → Same F H → (∀ v F' H', Ext F H F' H' → r F' v x → Q v H') → te σ H Q
def MkA (ta : TA) (σ : L2.St) (r : Rl α) (xs : List α) (F0 : Hp) : Prop := ∀ (F H : Hp) (Q : List V → Hp → Prop), Same F0 F → Same F H → (∀ vs F' H', Ext F H F' H' → Al r F' vs xs → Q vs H') → ta σ H Q
theorem mk_var {r : Rl α} [Mono r] {i : Nat} {v : V} {x : α} (h : σ[i]? = some (some v)) (hr : r F0 v x) : Mkd (tVar i) σ r x F0 := fun F H Q s0 s k => ⟨v, h, k v F H (Ext.refl s) (Mono.mono s0 hr)⟩
theorem mk_c {r : Rl α} [Mono r] {v : V} {x : α} (hr : r F0 v x) : Mkd (tC v) σ r x F0 := fun F H Q s0 s k => k v F H (Ext.refl s) (Mono.mono s0 hr)
theorem mk_cat {ta tb : TE} {a b : List Nat} (ha : Mkd ta σ rS a F0) (hb : Mkd tb σ rS b F0) (hl : a.length + b.length ≤ 1000) :
    Mkd (tOp (fun x y H Q => ∃ i j, x = .str i ∧ y = .str j ∧ i.length + j.length ≤ sizeLine ∧ Q (.str (i ++ j)) H) ta tb) σ rS (a ++ b) F0 := fun F H Q s0 s k =>
  ha F H _ s0 s fun v F1 H1 e1 h1 => hb F1 H1 _ (s0.trans e1.ff) e1.fh fun u F2 H2 e2 h2 => by
    have h1 : v = .str (S a) := h1
    have h2 : u = .str (S b) := h2
    subst h1 h2
    exact ⟨_, _, rfl, rfl, by rw [S_len, S_len, sl64]; omega, by rw [S_app]; exact k _ F2 H2 (e1.trans e2) rfl⟩
theorem mka_nil {r : Rl α} : MkA tNil σ r [] F0 := fun F H Q _ s k => k [] F H (Ext.refl s) .nil
theorem mka_cons {r : Rl α} [Mono r] {te : TE} {ta : TA} {x : α} {xs : List α} (h : Mkd te σ r x F0) (t : MkA ta σ r xs F0) : MkA (tCons te ta) σ r (x :: xs) F0 := fun F H Q s0 s k =>
  h F H _ s0 s fun v F1 H1 e1 h1 => t F1 H1 _ (s0.trans e1.ff) e1.fh fun vs F2 H2 e2 h2 => k (v :: vs) F2 H2 (e1.trans e2) (.cons (Mono.mono e2.ff h1) h2)
theorem mk_tup {r : Rl α} {t : Rl β} [Mono r] [Mono t] {ta tb : TE} {x : α} {y : β} (ha : Mkd ta σ r x F0) (hb : Mkd tb σ t y F0) : Mkd (tTup (tCons ta (tCons tb tNil))) σ (rP r t) (x, y) F0 := fun F H Q s0 s k =>
  ha F H _ s0 s fun v F1 H1 e1 h1 => hb F1 H1 _ (s0.trans e1.ff) e1.fh fun u F2 H2 e2 h2 =>
    ⟨by show 2 ≤ sizeLine; rw [sl64]; omega, fun p hp => by
      have e3 := (e1.trans e2).newF hp (o := .tup [v, u])
      have e23 := (Ext.refl e2.fh).newF hp (o := .tup [v, u])
      exact k (.ref p) _ _ e3 ⟨p, v, u, rfl, upd_same, Mono.mono (e2.ff.trans e23.ff) h1, Mono.mono e23.ff h2⟩⟩
theorem mk_lst {r : Rl α} [Mono r] {ta : TA} {xs : List α} (h : MkA ta σ r xs F0) (hl : xs.length ≤ 1000) : Mkd (tLst ta) σ (rL r) xs F0 := fun F H Q s0 s k =>
  h F H _ s0 s fun vs F1 H1 e1 h1 => ⟨by rw [h1.len, sl64]; omega, fun p hp => by
    have e23 := (Ext.refl e1.fh).newF hp (o := .lst vs)
    exact k (.ref p) _ _ (e1.newF hp) ⟨p, vs, rfl, upd_same, h1.mono e23.ff⟩⟩
end
end SF
namespace SF
open PySem PySem.Spec PyProof.Rows L2
theorem menu_mk {σ : L2.St} {F : Hp} {a b s x y z : Nat} (h3 : σ[3]? = some (some (vc s))) (h4 : σ[4]? = some (some (vc a))) (h5 : σ[5]? = some (some (vc b))) (h6 : σ[6]? = some (some (vc x))) (h7 : σ[7]? = some (some (vc y))) (h8 : σ[8]? = some (some (vc z))) : Mkd (tLst (tCons (tLst (tCons (tTup (tCons (tVar 3) (tCons (tOp (fun x y H Q => ∃ i j, x = V.str i ∧ y = V.str j ∧ i.length + j.length ≤ sizeLine ∧ Q (V.str (i ++ j)) H) (tOp (fun x y H Q => ∃ i j, x = V.str i ∧ y = V.str j ∧ i.length + j.length ≤ sizeLine ∧ Q (V.str (i ++ j)) H) (tVar 6) (tVar 3)) (tVar 7)) tNil))) tNil)) (tCons (tLst (tCons (tTup (tCons (tVar 3) (tCons (tOp (fun x y H Q => ∃ i j, x = V.str i ∧ y = V.str j ∧ i.length + j.length ≤ sizeLine ∧ Q (V.str (i ++ j)) H) (tOp (fun x y H Q => ∃ i j, x = V.str i ∧ y = V.str j ∧ i.length + j.length ≤ sizeLine ∧ Q (V.str (i ++ j)) H) (tOp (fun x y H Q => ∃ i j, x = V.str i ∧ y = V.str j ∧ i.length + j.length ≤ sizeLine ∧ Q (V.str (i ++ j)) H) (tVar 6) (tVar 3)) (tVar 7)) (tVar 3)) tNil))) tNil)) (tCons (tLst (tCons (tTup (tCons (tVar 3) (tCons (tOp (fun x y H Q => ∃ i j, x = V.str i ∧ y = V.str j ∧ i.length + j.length ≤ sizeLine ∧ Q (V.str (i ++ j)) H) (tOp (fun x y H Q => ∃ i j, x = V.str i ∧ y = V.str j ∧ i.length + j.length ≤ sizeLine ∧ Q (V.str (i ++ j)) H) (tVar 4) (tVar 8)) (tVar 3)) tNil))) (tCons (tTup (tCons (tVar 3) (tCons (tVar 4) tNil))) (tCons (tTup (tCons (tVar 4) (tCons (tOp (fun x y H Q => ∃ i j, x = V.str i ∧ y = V.str j ∧ i.length + j.length ≤ sizeLine ∧ Q (V.str (i ++ j)) H) (tOp (fun x y H Q => ∃ i j, x = V.str i ∧ y = V.str j ∧ i.length + j.length ≤ sizeLine ∧ Q (V.str (i ++ j)) H) (tVar 6) (tVar 3)) (tVar 7)) tNil))) tNil)))) (tCons (tLst (tCons (tTup (tCons (tVar 3) (tCons (tOp (fun x y H Q => ∃ i j, x = V.str i ∧ y = V.str j ∧ i.length + j.length ≤ sizeLine ∧ Q (V.str (i ++ j)) H) (tOp (fun x y H Q => ∃ i j, x = V.str i ∧ y = V.str j ∧ i.length + j.length ≤ sizeLine ∧ Q (V.str (i ++ j)) H) (tVar 6) (tVar 3)) (tVar 6)) tNil))) (tCons (tTup (tCons (tVar 3) (tCons (tOp (fun x y H Q => ∃ i j, x = V.str i ∧ y = V.str j ∧ i.length + j.length ≤ sizeLine ∧ Q (V.str (i ++ j)) H) (tOp (fun x y H Q => ∃ i j, x = V.str i ∧ y = V.str j ∧ i.length + j.length ≤ sizeLine ∧ Q (V.str (i ++ j)) H) (tVar 7) (tVar 3)) (tVar 7)) tNil))) tNil))) (tCons (tLst (tCons (tTup (tCons (tVar 3) (tCons (tOp (fun x y H Q => ∃ i j, x = V.str i ∧ y = V.str j ∧ i.length + j.length ≤ sizeLine ∧ Q (V.str (i ++ j)) H) (tVar 4) (tVar 5)) tNil))) (tCons (tTup (tCons (tVar 4) (tCons (tOp (fun x y H Q => ∃ i j, x = V.str i ∧ y = V.str j ∧ i.length + j.length ≤ sizeLine ∧ Q (V.str (i ++ j)) H) (tVar 6) (tVar 4)) tNil))) (tCons (tTup (tCons (tVar 5) (tCons (tOp (fun x y H Q => ∃ i j, x = V.str i ∧ y = V.str j ∧ i.length + j.length ≤ sizeLine ∧ Q (V.str (i ++ j)) H) (tVar 5) (tVar 7)) tNil))) tNil)))) (tCons (tLst (tCons (tTup (tCons (tVar 3) (tCons (tOp (fun x y H Q => ∃ i j, x = V.str i ∧ y = V.str j ∧ i.length + j.length ≤ sizeLine ∧ Q (V.str (i ++ j)) H) (tVar 3) (tVar 3)) tNil))) (tCons (tTup (tCons (tVar 3) (tCons (tOp (fun x y H Q => ∃ i j, x = V.str i ∧ y = V.str j ∧ i.length + j.length ≤ sizeLine ∧ Q (V.str (i ++ j)) H) (tOp (fun x y H Q => ∃ i j, x = V.str i ∧ y = V.str j ∧ i.length + j.length ≤ sizeLine ∧ Q (V.str (i ++ j)) H) (tVar 6) (tVar 3)) (tVar 7)) tNil))) tNil))) (tCons (tLst (tCons (tTup (tCons (tVar 3) (tCons (tOp (fun x y H Q => ∃ i j, x = V.str i ∧ y = V.str j ∧ i.length + j.length ≤ sizeLine ∧ Q (V.str (i ++ j)) H) (tVar 6) (tVar 4)) tNil))) (tCons (tTup (tCons (tVar 4) (tCons (tOp (fun x y H Q => ∃ i j, x = V.str i ∧ y = V.str j ∧ i.length + j.length ≤ sizeLine ∧ Q (V.str (i ++ j)) H) (tVar 7) (tVar 3)) tNil))) (tCons (tTup (tCons (tVar 4) (tCons (tOp (fun x y H Q => ∃ i j, x = V.str i ∧ y = V.str j ∧ i.length + j.length ≤ sizeLine ∧ Q (V.str (i ++ j)) H) (tVar 8) (tVar 5)) tNil))) (tCons (tTup (tCons (tVar 5) (tCons (tOp (fun x y H Q => ∃ i j, x = V.str i ∧ y = V.str j ∧ i.length + j.length ≤ sizeLine ∧ Q (V.str (i ++ j)) H) (tVar 6) (tVar 5)) tNil))) tNil))))) (tCons (tLst (tCons (tTup (tCons (tVar 3) (tCons (tOp (fun x y H Q => ∃ i j, x = V.str i ∧ y = V.str j ∧ i.length + j.length ≤ sizeLine ∧ Q (V.str (i ++ j)) H) (tOp (fun x y H Q => ∃ i j, x = V.str i ∧ y = V.str j ∧ i.length + j.length ≤ sizeLine ∧ Q (V.str (i ++ j)) H) (tVar 4) (tVar 6)) (tVar 5)) tNil))) (tCons (tTup (tCons (tVar 4) (tCons (tOp (fun x y H Q => ∃ i j, x = V.str i ∧ y = V.str j ∧ i.length + j.length ≤ sizeLine ∧ Q (V.str (i ++ j)) H) (tVar 5) (tVar 4)) tNil))) (tCons (tTup (tCons (tVar 5) (tCons (tVar 7) tNil))) tNil)))) tNil))))))))) σ (rL (rL rRule)) [[(s, (([x] ++ [s]) ++ [y]))], [(s, ((([x] ++ [s]) ++ [y]) ++ [s]))], [(s, (([a] ++ [z]) ++ [s])), (s, [a]), (a, (([x] ++ [s]) ++ [y]))], [(s, (([x] ++ [s]) ++ [x])), (s, (([y] ++ [s]) ++ [y]))], [(s, ([a] ++ [b])), (a, ([x] ++ [a])), (b, ([b] ++ [y]))], [(s, ([s] ++ [s])), (s, (([x] ++ [s]) ++ [y]))], [(s, ([x] ++ [a])), (a, ([y] ++ [s])), (a, ([z] ++ [b])), (b, ([x] ++ [b]))], [(s, (([a] ++ [x]) ++ [b])), (a, ([b] ++ [a])), (b, [y])]] F :=
  (mk_lst (mka_cons (mk_lst (mka_cons (mk_tup (r := rC) (t := rS) (mk_var (r := rC) (i := 3) (v := vc s) (x := s) h3 rfl) (mk_cat (a := ([x] ++ [s])) (b := [y]) (mk_cat (a := [x]) (b := [s]) (mk_var (r := rS) (i := 6) (v := vc x) (x := [x]) h6 rfl) (mk_var (r := rS) (i := 3) (v := vc s) (x := [s]) h3 rfl) (by simp)) (mk_var (r := rS) (i := 7) (v := vc y) (x := [y]) h7 rfl) (by simp))) mka_nil) (by simp)) (mka_cons (mk_lst (mka_cons (mk_tup (r := rC) (t := rS) (mk_var (r := rC) (i := 3) (v := vc s) (x := s) h3 rfl) (mk_cat (a := (([x] ++ [s]) ++ [y])) (b := [s]) (mk_cat (a := ([x] ++ [s])) (b := [y]) (mk_cat (a := [x]) (b := [s]) (mk_var (r := rS) (i := 6) (v := vc x) (x := [x]) h6 rfl) (mk_var (r := rS) (i := 3) (v := vc s) (x := [s]) h3 rfl) (by simp)) (mk_var (r := rS) (i := 7) (v := vc y) (x := [y]) h7 rfl) (by simp)) (mk_var (r := rS) (i := 3) (v := vc s) (x := [s]) h3 rfl) (by simp))) mka_nil) (by simp)) (mka_cons (mk_lst (mka_cons (mk_tup (r := rC) (t := rS) (mk_var (r := rC) (i := 3) (v := vc s) (x := s) h3 rfl) (mk_cat (a := ([a] ++ [z])) (b := [s]) (mk_cat (a := [a]) (b := [z]) (mk_var (r := rS) (i := 4) (v := vc a) (x := [a]) h4 rfl) (mk_var (r := rS) (i := 8) (v := vc z) (x := [z]) h8 rfl) (by simp)) (mk_var (r := rS) (i := 3) (v := vc s) (x := [s]) h3 rfl) (by simp))) (mka_cons (mk_tup (r := rC) (t := rS) (mk_var (r := rC) (i := 3) (v := vc s) (x := s) h3 rfl) (mk_var (r := rS) (i := 4) (v := vc a) (x := [a]) h4 rfl)) (mka_cons (mk_tup (r := rC) (t := rS) (mk_var (r := rC) (i := 4) (v := vc a) (x := a) h4 rfl) (mk_cat (a := ([x] ++ [s])) (b := [y]) (mk_cat (a := [x]) (b := [s]) (mk_var (r := rS) (i := 6) (v := vc x) (x := [x]) h6 rfl) (mk_var (r := rS) (i := 3) (v := vc s) (x := [s]) h3 rfl) (by simp)) (mk_var (r := rS) (i := 7) (v := vc y) (x := [y]) h7 rfl) (by simp))) mka_nil))) (by simp)) (mka_cons (mk_lst (mka_cons (mk_tup (r := rC) (t := rS) (mk_var (r := rC) (i := 3) (v := vc s) (x := s) h3 rfl) (mk_cat (a := ([x] ++ [s])) (b := [x]) (mk_cat (a := [x]) (b := [s]) (mk_var (r := rS) (i := 6) (v := vc x) (x := [x]) h6 rfl) (mk_var (r := rS) (i := 3) (v := vc s) (x := [s]) h3 rfl) (by simp)) (mk_var (r := rS) (i := 6) (v := vc x) (x := [x]) h6 rfl) (by simp))) (mka_cons (mk_tup (r := rC) (t := rS) (mk_var (r := rC) (i := 3) (v := vc s) (x := s) h3 rfl) (mk_cat (a := ([y] ++ [s])) (b := [y]) (mk_cat (a := [y]) (b := [s]) (mk_var (r := rS) (i := 7) (v := vc y) (x := [y]) h7 rfl) (mk_var (r := rS) (i := 3) (v := vc s) (x := [s]) h3 rfl) (by simp)) (mk_var (r := rS) (i := 7) (v := vc y) (x := [y]) h7 rfl) (by simp))) mka_nil)) (by simp)) (mka_cons (mk_lst (mka_cons (mk_tup (r := rC) (t := rS) (mk_var (r := rC) (i := 3) (v := vc s) (x := s) h3 rfl) (mk_cat (a := [a]) (b := [b]) (mk_var (r := rS) (i := 4) (v := vc a) (x := [a]) h4 rfl) (mk_var (r := rS) (i := 5) (v := vc b) (x := [b]) h5 rfl) (by simp))) (mka_cons (mk_tup (r := rC) (t := rS) (mk_var (r := rC) (i := 4) (v := vc a) (x := a) h4 rfl) (mk_cat (a := [x]) (b := [a]) (mk_var (r := rS) (i := 6) (v := vc x) (x := [x]) h6 rfl) (mk_var (r := rS) (i := 4) (v := vc a) (x := [a]) h4 rfl) (by simp))) (mka_cons (mk_tup (r := rC) (t := rS) (mk_var (r := rC) (i := 5) (v := vc b) (x := b) h5 rfl) (mk_cat (a := [b]) (b := [y]) (mk_var (r := rS) (i := 5) (v := vc b) (x := [b]) h5 rfl) (mk_var (r := rS) (i := 7) (v := vc y) (x := [y]) h7 rfl) (by simp))) mka_nil))) (by simp)) (mka_cons (mk_lst (mka_cons (mk_tup (r := rC) (t := rS) (mk_var (r := rC) (i := 3) (v := vc s) (x := s) h3 rfl) (mk_cat (a := [s]) (b := [s]) (mk_var (r := rS) (i := 3) (v := vc s) (x := [s]) h3 rfl) (mk_var (r := rS) (i := 3) (v := vc s) (x := [s]) h3 rfl) (by simp))) (mka_cons (mk_tup (r := rC) (t := rS) (mk_var (r := rC) (i := 3) (v := vc s) (x := s) h3 rfl) (mk_cat (a := ([x] ++ [s])) (b := [y]) (mk_cat (a := [x]) (b := [s]) (mk_var (r := rS) (i := 6) (v := vc x) (x := [x]) h6 rfl) (mk_var (r := rS) (i := 3) (v := vc s) (x := [s]) h3 rfl) (by simp)) (mk_var (r := rS) (i := 7) (v := vc y) (x := [y]) h7 rfl) (by simp))) mka_nil)) (by simp)) (mka_cons (mk_lst (mka_cons (mk_tup (r := rC) (t := rS) (mk_var (r := rC) (i := 3) (v := vc s) (x := s) h3 rfl) (mk_cat (a := [x]) (b := [a]) (mk_var (r := rS) (i := 6) (v := vc x) (x := [x]) h6 rfl) (mk_var (r := rS) (i := 4) (v := vc a) (x := [a]) h4 rfl) (by simp))) (mka_cons (mk_tup (r := rC) (t := rS) (mk_var (r := rC) (i := 4) (v := vc a) (x := a) h4 rfl) (mk_cat (a := [y]) (b := [s]) (mk_var (r := rS) (i := 7) (v := vc y) (x := [y]) h7 rfl) (mk_var (r := rS) (i := 3) (v := vc s) (x := [s]) h3 rfl) (by simp))) (mka_cons (mk_tup (r := rC) (t := rS) (mk_var (r := rC) (i := 4) (v := vc a) (x := a) h4 rfl) (mk_cat (a := [z]) (b := [b]) (mk_var (r := rS) (i := 8) (v := vc z) (x := [z]) h8 rfl) (mk_var (r := rS) (i := 5) (v := vc b) (x := [b]) h5 rfl) (by simp))) (mka_cons (mk_tup (r := rC) (t := rS) (mk_var (r := rC) (i := 5) (v := vc b) (x := b) h5 rfl) (mk_cat (a := [x]) (b := [b]) (mk_var (r := rS) (i := 6) (v := vc x) (x := [x]) h6 rfl) (mk_var (r := rS) (i := 5) (v := vc b) (x := [b]) h5 rfl) (by simp))) mka_nil)))) (by simp)) (mka_cons (mk_lst (mka_cons (mk_tup (r := rC) (t := rS) (mk_var (r := rC) (i := 3) (v := vc s) (x := s) h3 rfl) (mk_cat (a := ([a] ++ [x])) (b := [b]) (mk_cat (a := [a]) (b := [x]) (mk_var (r := rS) (i := 4) (v := vc a) (x := [a]) h4 rfl) (mk_var (r := rS) (i := 6) (v := vc x) (x := [x]) h6 rfl) (by simp)) (mk_var (r := rS) (i := 5) (v := vc b) (x := [b]) h5 rfl) (by simp))) (mka_cons (mk_tup (r := rC) (t := rS) (mk_var (r := rC) (i := 4) (v := vc a) (x := a) h4 rfl) (mk_cat (a := [b]) (b := [a]) (mk_var (r := rS) (i := 5) (v := vc b) (x := [b]) h5 rfl) (mk_var (r := rS) (i := 4) (v := vc a) (x := [a]) h4 rfl) (by simp))) (mka_cons (mk_tup (r := rC) (t := rS) (mk_var (r := rC) (i := 5) (v := vc b) (x := b) h5 rfl) (mk_var (r := rS) (i := 7) (v := vc y) (x := [y]) h7 rfl)) mka_nil))) (by simp)) mka_nil)))))))) (by simp))
theorem menu_mk_use {σ : L2.St} {F H : Hp} {Q : V → Hp → Prop} {a b s x y z : Nat} (h3 : σ[3]? = some (some (vc s))) (h4 : σ[4]? = some (some (vc a))) (h5 : σ[5]? = some (some (vc b))) (h6 : σ[6]? = some (some (vc x))) (h7 : σ[7]? = some (some (vc y))) (h8 : σ[8]? = some (some (vc z))) (sF : Same F H) (k : ∀ v F' H', Ext F H F' H' → (rL (rL rRule)) F' v [[(s, (([x] ++ [s]) ++ [y]))], [(s, ((([x] ++ [s]) ++ [y]) ++ [s]))], [(s, (([a] ++ [z]) ++ [s])), (s, [a]), (a, (([x] ++ [s]) ++ [y]))], [(s, (([x] ++ [s]) ++ [x])), (s, (([y] ++ [s]) ++ [y]))], [(s, ([a] ++ [b])), (a, ([x] ++ [a])), (b, ([b] ++ [y]))], [(s, ([s] ++ [s])), (s, (([x] ++ [s]) ++ [y]))], [(s, ([x] ++ [a])), (a, ([y] ++ [s])), (a, ([z] ++ [b])), (b, ([x] ++ [b]))], [(s, (([a] ++ [x]) ++ [b])), (a, ([b] ++ [a])), (b, [y])]] → Q v H') : (tLst (tCons (tLst (tCons (tTup (tCons (tVar 3) (tCons (tOp (fun x y H Q => ∃ i j, x = V.str i ∧ y = V.str j ∧ i.length + j.length ≤ sizeLine ∧ Q (V.str (i ++ j)) H) (tOp (fun x y H Q => ∃ i j, x = V.str i ∧ y = V.str j ∧ i.length + j.length ≤ sizeLine ∧ Q (V.str (i ++ j)) H) (tVar 6) (tVar 3)) (tVar 7)) tNil))) tNil)) (tCons (tLst (tCons (tTup (tCons (tVar 3) (tCons (tOp (fun x y H Q => ∃ i j, x = V.str i ∧ y = V.str j ∧ i.length + j.length ≤ sizeLine ∧ Q (V.str (i ++ j)) H) (tOp (fun x y H Q => ∃ i j, x = V.str i ∧ y = V.str j ∧ i.length + j.length ≤ sizeLine ∧ Q (V.str (i ++ j)) H) (tOp (fun x y H Q => ∃ i j, x = V.str i ∧ y = V.str j ∧ i.length + j.length ≤ sizeLine ∧ Q (V.str (i ++ j)) H) (tVar 6) (tVar 3)) (tVar 7)) (tVar 3)) tNil))) tNil)) (tCons (tLst (tCons (tTup (tCons (tVar 3) (tCons (tOp (fun x y H Q => ∃ i j, x = V.str i ∧ y = V.str j ∧ i.length + j.length ≤ sizeLine ∧ Q (V.str (i ++ j)) H) (tOp (fun x y H Q => ∃ i j, x = V.str i ∧ y = V.str j ∧ i.length + j.length ≤ sizeLine ∧ Q (V.str (i ++ j)) H) (tVar 4) (tVar 8)) (tVar 3)) tNil))) (tCons (tTup (tCons (tVar 3) (tCons (tVar 4) tNil))) (tCons (tTup (tCons (tVar 4) (tCons (tOp (fun x y H Q => ∃ i j, x = V.str i ∧ y = V.str j ∧ i.length + j.length ≤ sizeLine ∧ Q (V.str (i ++ j)) H) (tOp (fun x y H Q => ∃ i j, x = V.str i ∧ y = V.str j ∧ i.length + j.length ≤ sizeLine ∧ Q (V.str (i ++ j)) H) (tVar 6) (tVar 3)) (tVar 7)) tNil))) tNil)))) (tCons (tLst (tCons (tTup (tCons (tVar 3) (tCons (tOp (fun x y H Q => ∃ i j, x = V.str i ∧ y = V.str j ∧ i.length + j.length ≤ sizeLine ∧ Q (V.str (i ++ j)) H) (tOp (fun x y H Q => ∃ i j, x = V.str i ∧ y = V.str j ∧ i.length + j.length ≤ sizeLine ∧ Q (V.str (i ++ j)) H) (tVar 6) (tVar 3)) (tVar 6)) tNil))) (tCons (tTup (tCons (tVar 3) (tCons (tOp (fun x y H Q => ∃ i j, x = V.str i ∧ y = V.str j ∧ i.length + j.length ≤ sizeLine ∧ Q (V.str (i ++ j)) H) (tOp (fun x y H Q => ∃ i j, x = V.str i ∧ y = V.str j ∧ i.length + j.length ≤ sizeLine ∧ Q (V.str (i ++ j)) H) (tVar 7) (tVar 3)) (tVar 7)) tNil))) tNil))) (tCons (tLst (tCons (tTup (tCons (tVar 3) (tCons (tOp (fun x y H Q => ∃ i j, x = V.str i ∧ y = V.str j ∧ i.length + j.length ≤ sizeLine ∧ Q (V.str (i ++ j)) H) (tVar 4) (tVar 5)) tNil))) (tCons (tTup (tCons (tVar 4) (tCons (tOp (fun x y H Q => ∃ i j, x = V.str i ∧ y = V.str j ∧ i.length + j.length ≤ sizeLine ∧ Q (V.str (i ++ j)) H) (tVar 6) (tVar 4)) tNil))) (tCons (tTup (tCons (tVar 5) (tCons (tOp (fun x y H Q => ∃ i j, x = V.str i ∧ y = V.str j ∧ i.length + j.length ≤ sizeLine ∧ Q (V.str (i ++ j)) H) (tVar 5) (tVar 7)) tNil))) tNil)))) (tCons (tLst (tCons (tTup (tCons (tVar 3) (tCons (tOp (fun x y H Q => ∃ i j, x = V.str i ∧ y = V.str j ∧ i.length + j.length ≤ sizeLine ∧ Q (V.str (i ++ j)) H) (tVar 3) (tVar 3)) tNil))) (tCons (tTup (tCons (tVar 3) (tCons (tOp (fun x y H Q => ∃ i j, x = V.str i ∧ y = V.str j ∧ i.length + j.length ≤ sizeLine ∧ Q (V.str (i ++ j)) H) (tOp (fun x y H Q => ∃ i j, x = V.str i ∧ y = V.str j ∧ i.length + j.length ≤ sizeLine ∧ Q (V.str (i ++ j)) H) (tVar 6) (tVar 3)) (tVar 7)) tNil))) tNil))) (tCons (tLst (tCons (tTup (tCons (tVar 3) (tCons (tOp (fun x y H Q => ∃ i j, x = V.str i ∧ y = V.str j ∧ i.length + j.length ≤ sizeLine ∧ Q (V.str (i ++ j)) H) (tVar 6) (tVar 4)) tNil))) (tCons (tTup (tCons (tVar 4) (tCons (tOp (fun x y H Q => ∃ i j, x = V.str i ∧ y = V.str j ∧ i.length + j.length ≤ sizeLine ∧ Q (V.str (i ++ j)) H) (tVar 7) (tVar 3)) tNil))) (tCons (tTup (tCons (tVar 4) (tCons (tOp (fun x y H Q => ∃ i j, x = V.str i ∧ y = V.str j ∧ i.length + j.length ≤ sizeLine ∧ Q (V.str (i ++ j)) H) (tVar 8) (tVar 5)) tNil))) (tCons (tTup (tCons (tVar 5) (tCons (tOp (fun x y H Q => ∃ i j, x = V.str i ∧ y = V.str j ∧ i.length + j.length ≤ sizeLine ∧ Q (V.str (i ++ j)) H) (tVar 6) (tVar 5)) tNil))) tNil))))) (tCons (tLst (tCons (tTup (tCons (tVar 3) (tCons (tOp (fun x y H Q => ∃ i j, x = V.str i ∧ y = V.str j ∧ i.length + j.length ≤ sizeLine ∧ Q (V.str (i ++ j)) H) (tOp (fun x y H Q => ∃ i j, x = V.str i ∧ y = V.str j ∧ i.length + j.length ≤ sizeLine ∧ Q (V.str (i ++ j)) H) (tVar 4) (tVar 6)) (tVar 5)) tNil))) (tCons (tTup (tCons (tVar 4) (tCons (tOp (fun x y H Q => ∃ i j, x = V.str i ∧ y = V.str j ∧ i.length + j.length ≤ sizeLine ∧ Q (V.str (i ++ j)) H) (tVar 5) (tVar 4)) tNil))) (tCons (tTup (tCons (tVar 5) (tCons (tVar 7) tNil))) tNil)))) tNil))))))))) σ H Q := menu_mk h3 h4 h5 h6 h7 h8 F H Q (Same.refl F) sF k
end SF
namespace SF
open PySem PySem.Spec PyProof.Rows L2
/-! ### the head's facts: names, defs at any address, and a Bool of one's own -/
abbrev AlP : Type := He.AlD × Bool
def obsP (fa : List He.Fa) (fn : List He5.DefA) (ex : PySem.W.Frag → Bool) (K : PySem.W.Frag) : AlP := (He5.obsA fa fn K, ex K)
def valP (fn : List He5.DefA) : AlP := (He5.valA fn, true)
def obsPG (n : Nat) (fa : List He.Fa) (fn : List He5.DefA) (ex : PySem.W.Frag → Bool) (g : Addr → Option Obj) : AlP := obsP fa fn ex (He.frG g (He5.asA g n))
structure SaysP (fa : List He.Fa) (fn : List He5.DefA) (ex : PySem.W.Frag → Bool) (K : PySem.W.Frag) : Prop where
  a : He5.SaysA fa fn K
  more : ex K = true
def hookP (n : Nat) (fa : List He.Fa) (fn : List He5.DefA) (ex : PySem.W.Frag → Bool) : PySem.W.Hook where
  α := AlP
  obs := fun s => obsPG n fa fn ex s.heap.get?
  val := fun _ => valP fn
  says := fun _ h => ∃ K : PySem.W.Frag, K.In h ∧ SaysP fa fn ex K
  of := fun _ _ e => ⟨_, He.frG_in, congrArg (fun z : AlP => z.1) e, congrArg (fun z : AlP => z.2) e⟩
  keeps := fun _ _ _ ⟨K, hK, c⟩ k => ⟨K, PySem.W.Frag.In.keeps hK k, c⟩
theorem obsPG_eq {n : Nat} {fa : List He.Fa} {fn : List He5.DefA} {ex : PySem.W.Frag → Bool} {g : Addr → Option Obj} {s : Shared} (h : ∀ a, g a = s.heap.get? a) : obsPG n fa fn ex g = (hookP n fa fn ex).obs s := by
  have e : g = s.heap.get? := funext h
  rw [e] <;> rfl
/-! ### facts of one's own -/
def propB (K : PySem.W.Frag) (x f : Str) : Bool := He.eqO (PySem.W.findIn K (.ref (He.ga K x)) f) (some (some (.ref (He.ma K (He.ga K x) f)))) && (He.eqO (PySem.W.specialIn K (.ref (He.ma K (He.ga K x) f)) "__get__") (some (some (.builtin "property.__get__"))) &&
  (decide (PySem.W.takesIn K (.ref (He.ma K (He.ga K x) f)) = some true) && (match PySem.W.recIn K (He.ma K (He.ga K x) f) "property" with
    | some (.ref _ :: _) => true
    | _ => false)))
theorem propB_ok {K : PySem.W.Frag} {x f : Str} (h : propB K x f = true) : PropOf K (He.ga K x) f (He.ma K (He.ga K x) f) (He5.wf K (He.ga K x) "property" f) := by
  obtain ⟨h1, h⟩ := He.ba h
  obtain ⟨h2, h⟩ := He.ba h
  obtain ⟨h3, h4⟩ := He.ba h
  refine ⟨He.eqO_ok h1, He.eqO_ok h2, of_decide_eq_true h3, ?_⟩
  unfold He5.wf
  split at h4
  · rename_i f r e
    exact ⟨r, by rw [e]⟩
  · cases h4
def creadB (K : PySem.W.Frag) (x : Str) : Bool := PySem.W.readsIn K (He.ga K x) (.type "type") && He.eqO (PySem.W.specialIn K (.ref (He.ga K x)) "__getattribute__") (some (some (.builtin "type.__getattribute__")))
theorem creadB_ok {K : PySem.W.Frag} {x : Str} (h : creadB K x = true) : ClX.CRead K (He.ga K x) (.type "type") := by
  obtain ⟨h1, h2⟩ := He.ba h
  exact ⟨h1, He.eqO_ok h2⟩
def cvalB (K : PySem.W.Frag) (x f : Str) (v : He.Dv) : Bool := match PySem.W.findCls K (.ref (He.ga K x)) (.type "type") f with
  | some (.val u) => He.relB (v.v K) u
  | _ => false
theorem cvalB_ok {K : PySem.W.Frag} {x f : Str} {v : He.Dv} (h : cvalB K x f v = true) : ∃ u, ClX.CVal K (He.ga K x) (.type "type") f (v.v K) u := by
  unfold cvalB at h
  split at h
  · rename_i u e
    exact ⟨u, e, He.relB_ok h⟩
  · cases h
end SF
namespace SF
/-- n turns of a step that only adds: behind them nothing is added, if the list cannot grow beyond n -/
def turns {α : Type} (f : α → α) : Nat → α → α
  | 0, x => x
  | n + 1, x => f (turns f n x)
theorem turns_fix {f : List Nat → List Nat} (P : List Nat → Prop) (hP : ∀ x, P x → P (f x)) (hgrow : ∀ x, P x → x <+: f x) {B : Nat} (hB : ∀ x, P x → x.length ≤ B) :
    ∀ (n : Nat) (x : List Nat), P x → P (turns f n x) ∧ (f (turns f n x) = turns f n x ∨ x.length + n ≤ (turns f n x).length)
  | 0, x, h => ⟨h, .inr (by simp [turns])⟩
  | n + 1, x, h => by
    obtain ⟨h1, h2⟩ := turns_fix P hP hgrow hB n x h
    refine ⟨hP _ h1, ?_⟩
    show f (f (turns f n x)) = f (turns f n x) ∨ _ ≤ (f (turns f n x)).length
    rcases h2 with h2 | h2
    · exact .inl (by rw [h2, h2])
    · by_cases e : f (turns f n x) = turns f n x
      · exact .inl (by rw [e, e])
      · right
        have hp := hgrow _ h1
        have h3 := hp.length_le
        have h4 : (turns f n x).length ≠ (f (turns f n x)).length := fun q => e (hp.eq_of_length q).symm
        omega
def liveB (names : List Nat) (b : List Nat) : Bool := (namesIn b).all fun c => decide (c ∈ names)
theorem liveB_iff {names b : List Nat} : liveB names b = true ↔ ∀ c ∈ namesIn b, c ∈ names := by
  unfold liveB
  rw [List.all_eq_true]
  exact ⟨fun h c hc => of_decide_eq_true (h c hc), fun h c hc => decide_eq_true (h c hc)⟩
def lvStep (live : List Nat) (r : Rule) : List Nat := if r.1 ∉ live ∧ liveB live r.2 = true then live ++ [r.1] else live
def lvTurn (rules : List Rule) (live : List Nat) : List Nat := rules.foldl lvStep live
def lawLive (rules : List Rule) : List Nat := turns (lvTurn rules) rules.length []
theorem lvStep_pre {live : List Nat} {r : Rule} : live <+: lvStep live r := by
  unfold lvStep
  split
  · exact List.prefix_append _ _
  · exact List.prefix_refl _
theorem foldl_pre {α : Type} {f : List Nat → α → List Nat} (hf : ∀ x a, x <+: f x a) : ∀ (l : List α) (x : List Nat), x <+: l.foldl f x
  | [], x => List.prefix_refl _
  | a :: l, x => (hf x a).trans (foldl_pre hf l (f x a))
/-- a step that changes nothing over the whole list changes nothing at each item -/
theorem foldl_same {α : Type} {f : List Nat → α → List Nat} (hf : ∀ x a, x <+: f x a) : ∀ {l : List α} {x : List Nat}, l.foldl f x = x → ∀ a ∈ l, f x a = x
  | [], _, _, a, ha => by cases ha
  | b :: l, x, h, a, ha => by
    have h1 := hf x b
    have h2 := foldl_pre hf l (f x b)
    have hb : f x b = x := by
      have h3 : (l.foldl f (f x b)) = x := h
      rw [h3] at h2
      exact (h2.eq_of_length_le h1.length_le)
    rcases List.mem_cons.mp ha with rfl | ha
    · exact hb
    · have h3 : l.foldl f (f x b) = x := h
      rw [hb] at h3
      exact foldl_same hf h3 a ha
section
variable {rules : List Rule}
/-- live names: distinct heads -/
def LvP (rules : List Rule) (live : List Nat) : Prop := live.Nodup ∧ (∀ c ∈ live, c ∈ rules.map (·.1)) ∧ ∀ c ∈ live, ∃ w, DerW rules [c] w
theorem der_of_names {b : List Nat} (h : ∀ c ∈ namesIn b, ∃ w, DerW rules [c] w) : ∃ w, DerW rules b w := by
  induction b with
  | nil => exact ⟨[], .nil⟩
  | cons c b ih =>
    obtain ⟨w, d⟩ := ih fun x hx => h x (by
      unfold namesIn at hx ⊢
      rw [List.filter_cons]
      split
      · exact List.mem_cons_of_mem _ hx
      · exact hx)
    by_cases hn : nam c = true
    · obtain ⟨w1, d1⟩ := h c (by unfold namesIn; rw [List.filter_cons, if_pos hn]; exact List.mem_cons_self)
      exact ⟨_, d1.app d⟩
    · exact ⟨_, .sign (by simpa using hn) d⟩
theorem lvStep_ok (hr : RulesOk rules) {live : List Nat} {r : Rule} (hm : r ∈ rules) (h : LvP rules live) : LvP rules (lvStep live r) := by
  unfold lvStep
  split
  · rename_i hc
    refine ⟨?_, fun c hx => ?_, fun c hx => ?_⟩
    · rw [List.nodup_append]
      exact ⟨h.1, by simp, fun x hx y hy => by simp at hy; subst hy; exact fun e => hc.1 (e ▸ hx)⟩
    · rcases List.mem_append.mp hx with z | z
      · exact h.2.1 c z
      · simp at z
        subst z
        exact List.mem_map_of_mem hm
    · rcases List.mem_append.mp hx with z | z
      · exact h.2.2 c z
      · simp at z
        subst z
        obtain ⟨w, d⟩ := der_of_names (rules := rules) fun x hx => h.2.2 x (liveB_iff.mp hc.2 x hx)
        exact ⟨_, .name hm (hr r hm).1 d .nil⟩
  · exact h
theorem foldl_keep {α β : Type} {f : β → α → β} (P : β → Prop) : ∀ {l : List α}, (∀ x, ∀ a ∈ l, P x → P (f x a)) → ∀ {x : β}, P x → P (l.foldl f x)
  | [], _, _, h => h
  | a :: l, hf, x, h => foldl_keep P (l := l) (fun x b hb => hf x b (List.mem_cons_of_mem _ hb)) (hf x a List.mem_cons_self h)
theorem lawLive_ok (hr : RulesOk rules) : LvP rules (lawLive rules) ∧ ∀ r ∈ rules, liveB (lawLive rules) r.2 = true → r.1 ∈ lawLive rules := by
  have hlen : ∀ x, LvP rules x → x.length ≤ rules.length := fun x h => by
    have := nodup_le h.1 h.2.1
    rwa [List.length_map] at this
  obtain ⟨h1, h2⟩ := turns_fix (f := lvTurn rules) (LvP rules) (fun x h => foldl_keep (LvP rules) (fun y r hm hy => lvStep_ok hr hm hy) h) (fun x _ => foldl_pre (fun _ _ => lvStep_pre) rules x) hlen rules.length []
    ⟨List.nodup_nil, fun c h => (by cases h), fun c h => (by cases h)⟩
  refine ⟨h1, fun r hm hl => ?_⟩
  rcases h2 with h2 | h2
  · have := foldl_same (fun _ _ => lvStep_pre) h2 r hm
    show r.1 ∈ turns (lvTurn rules) rules.length []
    unfold lvStep at this
    by_cases hc : r.1 ∈ turns (lvTurn rules) rules.length []
    · exact hc
    · rw [if_pos ⟨hc, hl⟩] at this
      have := congrArg List.length this
      simp at this
  · have h3 : (turns (lvTurn rules) rules.length []).length = (rules.map (·.1)).length := by
      have := hlen _ h1
      rw [List.length_map]
      simp at h2
      have h2' : rules.length ≤ (turns (lvTurn rules) rules.length []).length := h2
      have : (turns (lvTurn rules) rules.length []).length ≤ rules.length := this
      omega
    by_cases hc : r.1 ∈ turns (lvTurn rules) rules.length []
    · exact hc
    · have hn := nodup_le (l := r.1 :: turns (lvTurn rules) rules.length []) (s := rules.map (·.1)) (List.nodup_cons.mpr ⟨hc, h1.1⟩) (fun x hx => by
        rcases List.mem_cons.mp hx with rfl | hx
        · exact List.mem_map_of_mem hm
        · exact h1.2.1 x hx)
      rw [List.length_cons] at hn
      omega
/-- the live names are those with lengths -/
theorem lawLive_lens (hr : RulesOk rules) (c : Nat) (hc : nam c = true) : c ∈ lawLive rules ↔ (aGet (leastLengths rules) c).isSome = true := by
  obtain ⟨h1, h2⟩ := lawLive_ok hr
  constructor
  · intro h
    obtain ⟨w, d⟩ := h1.2.2 c h
    exact (allIn_cons.mp (ll_least hr d).1).1 hc
  · intro h
    cases q : aGet (leastLengths rules) c with
    | none => rw [q] at h; cases h
    | some x =>
      obtain ⟨w, d, _⟩ := ll_sound hr c x q
      have key : ∀ {b w : List Nat}, DerW rules b w → ∀ x ∈ namesIn b, x ∈ lawLive rules := by
        intro b w d
        induction d with
        | nil => intro x hx; cases hx
        | sign hs _ ih =>
          intro x hx
          unfold namesIn at hx
          rw [List.filter_cons, if_neg (by rw [hs]; exact Bool.false_ne_true)] at hx
          exact ih x hx
        | name hm hn _ _ ih1 ih2 =>
          intro x hx
          unfold namesIn at hx
          rw [List.filter_cons, if_pos hn] at hx
          rcases List.mem_cons.mp hx with rfl | hx
          · exact h2 _ hm (liveB_iff.mpr ih1)
          · exact ih2 x hx
      exact key d c (by unfold namesIn; rw [List.filter_cons, if_pos hc]; exact List.mem_cons_self)
theorem liveB_allIn (hr : RulesOk rules) (b : List Nat) : liveB (lawLive rules) b = allIn (leastLengths rules) b := by
  rw [Bool.eq_iff_iff, liveB_iff]
  unfold allIn
  rw [List.all_eq_true]
  constructor
  · intro h c hc
    exact (lawLive_lens hr c (List.mem_filter.mp hc).2).mp (h c hc)
  · intro h c hc
    exact (lawLive_lens hr c (List.mem_filter.mp hc).2).mpr (h c hc)
/-! ### the good names -/
def gdPart (good : List Nat) (c : Nat) : List Nat := if nam c = true ∧ c ∉ good then good ++ [c] else good
def gdStep (live : List Nat) (good : List Nat) (r : Rule) : List Nat := if r.1 ∈ good ∧ liveB live r.2 = true then r.2.foldl gdPart good else good
def gdTurn (rules : List Rule) (live : List Nat) (good : List Nat) : List Nat := rules.foldl (gdStep live) good
def lawGood (rules : List Rule) (root : Nat) : List Nat := turns (gdTurn rules (lawLive rules)) rules.length [root]
def lawUseful (rules : List Rule) (root : Nat) : List Nat := (List.range rules.length).filter fun k => match rules[k]? with
  | none => false
  | some r => decide (r.1 ∈ lawGood rules root) && liveB (lawLive rules) r.2
theorem gdPart_pre {good : List Nat} {c : Nat} : good <+: gdPart good c := by
  unfold gdPart
  split
  · exact List.prefix_append _ _
  · exact List.prefix_refl _
theorem gdStep_pre {live good : List Nat} {r : Rule} : good <+: gdStep live good r := by
  unfold gdStep
  split
  · exact foldl_pre (fun _ _ => gdPart_pre) r.2 good
  · exact List.prefix_refl _
theorem gdParts_mem : ∀ {b good : List Nat}, ∀ c ∈ namesIn b, c ∈ b.foldl gdPart good
  | [], _, c, hc => by cases hc
  | a :: b, good, c, hc => by
    rw [List.foldl_cons]
    unfold namesIn at hc
    rw [List.filter_cons] at hc
    by_cases hn : nam a = true
    · rw [if_pos hn] at hc
      rcases List.mem_cons.mp hc with rfl | hc
      · refine (foldl_pre (fun _ _ => gdPart_pre) b (gdPart good c)).subset ?_
        unfold gdPart
        by_cases hg : c ∈ good
        · rw [if_neg (fun z => z.2 hg)]; exact hg
        · rw [if_pos ⟨hn, hg⟩]; simp
      · exact gdParts_mem c hc
    · rw [if_neg hn] at hc
      exact gdParts_mem c hc
/-- a set of names that holds the root and is closed -/
def GdP (rules : List Rule) (root : Nat) (good : List Nat) : Prop := good.Nodup ∧ root ∈ good ∧ ∀ c ∈ good, c ∈ reached rules root (leastLengths rules)
theorem gdStep_ok (hr : RulesOk rules) {root : Nat} (hroot : nam root = true) {good : List Nat} {r : Rule} (hm : r ∈ rules) (h : GdP rules root good) : GdP rules root (gdStep (lawLive rules) good r) := by
  unfold gdStep
  split
  · rename_i hc
    have hall : allIn (leastLengths rules) r.2 = true := by rw [← liveB_allIn hr]; exact hc.2
    have hcl := (reached_ok (rules := rules) (lens := leastLengths rules) hroot).2.2 r.1 (h.2.2 r.1 hc.1) r hm rfl hall
    refine foldl_keep (GdP rules root) (fun x c hcm hx => ?_) h
    unfold gdPart
    split
    · rename_i hq
      refine ⟨?_, List.mem_append_left _ hx.2.1, fun y hy => ?_⟩
      · rw [List.nodup_append]
        exact ⟨hx.1, by simp, fun a ha b hb => by simp at hb; subst hb; exact fun e => hq.2 (e ▸ ha)⟩
      · rcases List.mem_append.mp hy with z | z
        · exact hx.2.2 y z
        · simp at z
          subst z
          exact hcl y (List.mem_filter.mpr ⟨hcm, hq.1⟩)
    · exact hx
  · exact h
theorem ureach_least {α : Type} {lens : List (Nat × α)} {G : List Nat} (hG : ∀ c ∈ G, ClosedAt rules lens G c) : ∀ (n : Nat) (re : List Nat) (i : Nat), (∀ c ∈ re, c ∈ G) → ∀ c ∈ ureach rules lens n re i, c ∈ G
  | 0, re, i, h => h
  | n + 1, re, i, h => by
    cases q : re[i]? with
    | none => rw [ureach_none q]; exact h
    | some c =>
      rw [ureach_some q]
      refine ureach_least hG n _ (i + 1) ?_
      have hc := h c (List.mem_of_getElem? q)
      refine foldl_keep (fun x : List Nat => ∀ y ∈ x, y ∈ G) (fun x r hm hx => ?_) h
      unfold uStep
      split
      · rename_i hr
        intro y hy
        rcases List.mem_append.mp hy with z | z
        · exact hx y z
        · exact hG c hc r hm hr.1 hr.2 y (sortedNames_mem.mp (List.mem_filter.mp z).1)
      · exact hx
theorem lawGood_ok (hr : RulesOk rules) {root : Nat} (hroot : nam root = true) (hhere : root ∈ rules.map (·.1)) (c : Nat) : c ∈ lawGood rules root ↔ c ∈ reached rules root (leastLengths rules) := by
  have hheads : ∀ x, GdP rules root x → x.length ≤ rules.length ∨ True := fun _ _ => .inr trivial
  have hre := reached_ok (rules := rules) (lens := leastLengths rules) hroot
  -- the reached names but the root are heads: they have lengths
  have hhead : ∀ c ∈ reached rules root (leastLengths rules), c ∈ rules.map (·.1) := by
    have hlens : ∀ c ∈ reached rules root (leastLengths rules), c = root ∨ c ∈ rules.map (·.1) := ureach_least (G := (root :: rules.map (·.1))) (fun c hc r hm hrc hal x hx => by
      have hx2 := List.all_eq_true.mp hal x hx
      cases q : aGet (leastLengths rules) x with
      | none => rw [q] at hx2; cases hx2
      | some y =>
        obtain ⟨w, d, _⟩ := ll_sound hr x y q
        obtain ⟨c0, hc0⟩ : ∃ c0, c0 = x := ⟨_, rfl⟩
        rw [← hc0] at d
        have hnx := (List.mem_filter.mp hx).2
        cases d with
        | sign hs _ => rw [hc0, hnx] at hs; cases hs
        | name hm2 _ _ _ => exact List.mem_cons_of_mem _ (hc0 ▸ List.mem_map_of_mem hm2)) 27 [root] 0 (fun c hc => by simp at hc; subst hc; exact List.mem_cons_self) |> fun h c hc => List.mem_cons.mp (h c hc)
    intro c hc
    rcases hlens c hc with rfl | h
    · exact hhere
    · exact h
  have hlen : ∀ x, GdP rules root x → x.length ≤ rules.length := fun x h => by
    have := nodup_le h.1 (s := rules.map (·.1)) fun c hc => hhead c (h.2.2 c hc)
    rwa [List.length_map] at this
  obtain ⟨h1, h2⟩ := turns_fix (f := gdTurn rules (lawLive rules)) (GdP rules root) (fun x h => foldl_keep (GdP rules root) (fun y r hm hy => gdStep_ok hr hroot hm hy) h) (fun x _ => foldl_pre (fun _ _ => gdStep_pre) rules x) hlen rules.length [root]
    ⟨by simp, by simp, fun c h => by simp at h; subst h; exact hre.1⟩
  constructor
  · exact h1.2.2 c
  · refine ureach_least (fun c hc r hm hrc hal x hx => ?_) 27 [root] 0 (fun y hy => by simp at hy; subst hy; exact h1.2.1) c
    rcases h2 with h2 | h2
    · have h3 := foldl_same (fun _ _ => gdStep_pre) h2 r hm
      unfold gdStep at h3
      rw [if_pos ⟨by rw [hrc]; exact hc, by rw [liveB_allIn hr]; exact hal⟩] at h3
      have h4 := gdParts_mem (good := turns (gdTurn rules (lawLive rules)) rules.length [root]) x hx
      rw [h3] at h4
      exact h4
    · have := hlen _ h1
      simp at h2
      have h2' : 1 + rules.length ≤ (turns (gdTurn rules (lawLive rules)) rules.length [root]).length := by simpa [Nat.add_comm] using h2
      omega
/-- the law's useful numbers are the program's -/
theorem lawUseful_eq (hr : RulesOk rules) {root : Nat} (hroot : nam root = true) (hhere : root ∈ rules.map (·.1)) : lawUseful rules root = usefulNumbers rules root (leastLengths rules) := by
  have hg := lawGood_ok hr hroot hhere
  unfold lawUseful usefulNumbers
  have key : ∀ (l : List Rule) (k : Nat) (p : Rule → Bool), (l.zipIdx k |>.filter fun q => p q.1).map (·.2) = (List.range' k l.length).filter fun i => match l[i - k]? with
      | none => false
      | some r => p r := by
    intro l
    induction l with
    | nil => intro k p; rfl
    | cons a l ih =>
      intro k p
      rw [List.zipIdx_cons, List.length_cons, List.range'_succ, List.filter_cons, List.filter_cons]
      have h1 : (match (a :: l)[k - k]? with | none => false | some r => p r) = p a := by rw [Nat.sub_self]; rfl
      have h2 : (List.range' (k + 1) l.length).filter (fun i => match (a :: l)[i - k]? with | none => false | some r => p r) = (List.range' (k + 1) l.length).filter (fun i => match l[i - (k + 1)]? with | none => false | some r => p r) := by
        apply List.filter_congr
        intro i hi
        have hi2 := (List.mem_range'_1.mp hi).1
        have e : i - k = (i - (k + 1)) + 1 := by omega
        rw [e, List.getElem?_cons_succ]
      have h1' : (match (a :: l)[k - k]? with | none => false | some r => p r) = p (a, k).1 := h1
      rw [h1', h2]
      by_cases hp : p a = true
      · rw [if_pos hp, if_pos hp, List.map_cons, ih (k + 1) p]
      · rw [if_neg hp, if_neg hp, ih (k + 1) p]
  have := key rules 0 (fun r => usefulAt (reached rules root (leastLengths rules)) (leastLengths rules) r)
  rw [show (rules.zipIdx.filter fun q => usefulAt (reached rules root (leastLengths rules)) (leastLengths rules) q.1).map (·.2) = _ from this, List.range_eq_range']
  apply List.filter_congr
  intro i _
  rw [Nat.sub_zero]
  cases rules[i]? with
  | none => rfl
  | some r =>
    show (decide _ && _) = usefulAt _ _ _
    unfold usefulAt
    rw [liveB_allIn hr]
    congr 1
    exact decide_eq_decide.mpr (hg r.1)
end
end SF
namespace SF
/-- what holds of the empty best and is kept by each entry holds of the best -/
theorem best_keep {g : Gram} (h : PreOk g) (P : Best → Prop) (h0 : P []) (hP : ∀ (m : Best) (r : Rule) (n : Nat), P m → LDok g.lens m → RuOk g.lens r → r ∈ g.rules → ldDue g.lens m r = true → ldBetter m r = true → P (aPut m r.1 ⟨ldSteps m r.2, ldWord m r.2, n⟩)) : P g.best := by
  have step : ∀ (st : Best × Bool) (n : Nat), n ∈ g.useful → (P st.1 ∧ LDok g.lens st.1) → (P (ldStep g.rules g.lens st n).1 ∧ LDok g.lens (ldStep g.rules g.lens st n).1) := fun st n hn hp => by
    obtain ⟨r, hr, hro⟩ := h.rule hn
    by_cases hd : ldDue g.lens st.1 r = true
    · by_cases hb : ldBetter st.1 r = true
      · rw [ldStep_yes hr hd hb]
        exact ⟨hP st.1 r n hp.1 hp.2 hro (List.mem_of_getElem? hr) hd hb, hp.2.put hro hd hb n⟩
      · rw [ldStep_no2 hr (by simpa using hb)]; exact hp
    · rw [ldStep_no hr (by simpa using hd)]; exact hp
  have round : ∀ m : Best, (P m ∧ LDok g.lens m) → (P (ldRound g.rules g.lens g.useful m).1 ∧ LDok g.lens (ldRound g.rules g.lens g.useful m).1) := fun m hm =>
    foldl_keep (fun st : Best × Bool => P st.1 ∧ LDok g.lens st.1) (fun st n hn hp => step st n hn hp) (x := (m, false)) hm
  have all : ∀ (n : Nat) (m : Best), (P m ∧ LDok g.lens m) → P (rounds (ldRound g.rules g.lens g.useful) n m) := by
    intro n
    induction n with
    | zero => intro m hm; exact hm.1
    | succ n ih =>
      intro m hm
      have h2 := round m hm
      unfold rounds
      split
      · exact ih _ h2
      · exact h2.1
  exact all _ _ ⟨h0, LDok.nil _⟩
/-- the rules that such a list may have -/
inductive WdRu (names : List Nat) (nv ap w0 w1 w2 : Nat) : Rule → Prop
  | inner {r} : RuD names r → WdRu names nv ap w0 w1 w2 r
  | never : WdRu names nv ap w0 w1 w2 (nv, [122, nv])
  | needs : WdRu names nv ap w0 w1 w2 (dg names 0, [121, nv])
  | apart : WdRu names nv ap w0 w1 w2 (ap, [120])
  | way : WdRu names nv ap w0 w1 w2 (dg names 0, [w0])
  | way0 : WdRu names nv ap w0 w1 w2 (w0, [w1])
  | way1 : WdRu names nv ap w0 w1 w2 (w1, [w2])
  | way2 : WdRu names nv ap w0 w1 w2 (w2, [113])
  | more {b} : b.length ≤ 4 → (∀ c ∈ b, sgn c = true) → WdRu names nv ap w0 w1 w2 (dg names 0, b)
structure Wd (names : List Nat) (nv ap w0 w1 w2 : Nat) (rules : List Rule) : Prop where
  ru : ∀ r ∈ rules, WdRu names nv ap w0 w1 w2 r
  en : ∃ r ∈ rules, r.1 = dg names 0 ∧ r.2.length ≤ 2 ∧ ∀ c ∈ r.2, sgn c = true
  nn : ∀ c ∈ names, nam c = true
  one : 1 ≤ names.length
  three : names.length ≤ 3
  news : ∀ c ∈ [nv, ap, w0, w1, w2], nam c = true ∧ c ∉ names
  dist : [nv, ap, w0, w1, w2].Nodup
section
variable {names : List Nat} {nv ap w0 w1 w2 : Nat} {rules : List Rule}
theorem Wd.rok (h : Wd names nv ap w0 w1 w2 rules) : RulesOk rules := fun r hr => by
  have hroot : nam (dg names 0) = true := h.nn _ (dg_mem h.one)
  have n1 := (h.news nv (by simp)).1
  have n2 := (h.news ap (by simp)).1
  have n3 := (h.news w0 (by simp)).1
  have n4 := (h.news w1 (by simp)).1
  have n5 := (h.news w2 (by simp)).1
  have s1 : sgn 122 = true := by decide
  have s2 : sgn 121 = true := by decide
  have s3 : sgn 120 = true := by decide
  have s4 : sgn 113 = true := by decide
  cases h.ru r hr with
  | inner q =>
    refine ⟨h.nn _ q.hd, q.few, fun c hc => ?_⟩
    rw [Bool.or_eq_true]
    rcases q.bd c hc with z | z
    · exact .inl z
    · exact .inr (h.nn c z)
  | never => exact ⟨n1, by simp, fun c hc => by simp at hc; rcases hc with rfl | rfl <;> simp [*]⟩
  | needs => exact ⟨hroot, by simp, fun c hc => by simp at hc; rcases hc with rfl | rfl <;> simp [*]⟩
  | apart => exact ⟨n2, by simp, fun c hc => by simp at hc; subst hc; simp [*]⟩
  | way => exact ⟨hroot, by simp, fun c hc => by simp at hc; subst hc; simp [*]⟩
  | way0 => exact ⟨n3, by simp, fun c hc => by simp at hc; subst hc; simp [*]⟩
  | way1 => exact ⟨n4, by simp, fun c hc => by simp at hc; subst hc; simp [*]⟩
  | way2 => exact ⟨n5, by simp, fun c hc => by simp at hc; subst hc; simp [*]⟩
  | more hb hs => exact ⟨hroot, hb, fun c hc => by rw [hs c hc]; rfl⟩
theorem nam_one {c : Nat} (h : nam c = true) : namesIn [c] = [c] := by unfold namesIn; rw [List.filter_cons, if_pos h]; rfl
theorem total_one {lens : List (Nat × Nat)} {c : Nat} (h : nam c = true) : total lens [c] = (aGet lens c).getD 0 := by
  rw [total_cons, if_pos h]; show _ + 0 = _; omega
def cntW (names : List Nat) (l : List Nat) : Nat := (l.filter fun x => decide (x ∈ names ∧ x ≠ dg names 0)).length
theorem cntW_mono {l m : List Nat} (h : l <+: m) : cntW names l ≤ cntW names m := List.Sublist.length_le (List.Sublist.filter _ h.sublist)
theorem Wd.root (h : Wd names nv ap w0 w1 w2 rules) : ∃ x, aGet (leastLengths rules) (dg names 0) = some x ∧ x ≤ 2 := by
  obtain ⟨r, hr, e1, e2, e3⟩ := h.en
  have hnn := no_names e3
  obtain ⟨x, hx, hle⟩ := ll_fix h.rok hr (by unfold allIn; rw [hnn]; rfl)
  rw [e1] at hx
  refine ⟨x, hx, ?_⟩
  unfold total at hle
  rw [hnn] at hle
  simp at hle
  omega
theorem Wd.bound (h : Wd names nv ap w0 w1 w2 rules) : ∀ i c, ((leastLengths rules).map (·.1))[i]? = some c → (aGet (leastLengths rules) c).getD 0 ≤ 2 * 3 ^ cntW names (((leastLengths rules).map (·.1)).take (i + 1)) := by
  have hrok := h.rok
  have hrk := ll_ranked rules
  have hll := (ll_fin hrok).1
  obtain ⟨x0, hx0, hle0⟩ := h.root
  intro i
  induction i using Nat.strongRecOn with
  | _ i ih =>
    intro c hc
    have hpos : ∀ n, 1 ≤ 3 ^ n := fun n => Nat.pow_pos (by decide)
    by_cases e : c = dg names 0
    · subst e
      rw [hx0]
      have := hpos (cntW names (((leastLengths rules).map (·.1)).take (i + 1)))
      show x0 ≤ _
      omega
    · obtain ⟨r, hr, e1, e2⟩ := hrk i c hc
      have hal : allIn (leastLengths rules) r.2 = true := List.all_eq_true.mpr fun x hx => by
        have := List.mem_of_mem_take (e2 x hx)
        cases q : aGet (leastLengths rules) x with
        | none => exact absurd this (aGet_none.mp q)
        | some y => rfl
      obtain ⟨x, hx, hle⟩ := ll_fix hrok hr hal
      rw [e1] at hx
      rw [hx]
      show x ≤ _
      have earlier : ∀ y ∈ namesIn r.2, (aGet (leastLengths rules) y).getD 0 ≤ 2 * 3 ^ cntW names (((leastLengths rules).map (·.1)).take i) := fun y hy => by
        obtain ⟨j, hj⟩ := List.mem_iff_getElem?.mp (e2 y hy)
        have hji : j < i := by
          have := (List.getElem?_eq_some_iff.mp hj).1
          rw [List.length_take] at this
          omega
        rw [List.getElem?_take, if_pos hji] at hj
        exact Nat.le_trans (ih j hji y hj) (Nat.mul_le_mul_left _ (Nat.pow_le_pow_right (by decide) (cntW_mono (List.take_prefix_take_left (show j + 1 ≤ i by omega)))))
      have htk : ((leastLengths rules).map (·.1)).take (i + 1) = ((leastLengths rules).map (·.1)).take i ++ [c] := by
        rw [List.take_add_one, hc]
        rfl
      have hup : 2 * 3 ^ cntW names (((leastLengths rules).map (·.1)).take i) ≤ 2 * 3 ^ cntW names (((leastLengths rules).map (·.1)).take (i + 1)) := by
        rw [htk]
        exact Nat.mul_le_mul_left _ (Nat.pow_le_pow_right (by decide) (cntW_mono (List.prefix_append _ _)))
      have hp1 := hpos (cntW names (((leastLengths rules).map (·.1)).take (i + 1)))
      cases h.ru r hr with
      | inner q =>
        have h3 : r.2.length ≤ 3 := q.less (by rw [e1]; exact e)
        have hcn : c ∈ names := e1 ▸ q.hd
        have hstep : cntW names (((leastLengths rules).map (·.1)).take (i + 1)) = cntW names (((leastLengths rules).map (·.1)).take i) + 1 := by
          rw [htk]
          unfold cntW
          rw [List.filter_append, List.length_append]
          simp [hcn, e]
        rw [hstep, Nat.pow_succ]
        have hB := total_bound (lens := leastLengths rules) (B := 2 * 3 ^ cntW names (((leastLengths rules).map (·.1)).take i)) (by have := hpos (cntW names (((leastLengths rules).map (·.1)).take i)); omega) (b := r.2) earlier
        have h4 := Nat.mul_le_mul_right (2 * 3 ^ cntW names (((leastLengths rules).map (·.1)).take i)) h3
        omega
      | never =>
        have hnv : nam nv = true := (h.news nv (by simp)).1
        have hm : nv ∈ ((leastLengths rules).map (·.1)).take i := e2 nv (by unfold namesIn; simp [hnv])
        have e1' : nv = c := e1
        subst e1'
        exfalso
        obtain ⟨j, hj⟩ := List.mem_iff_getElem?.mp hm
        have hji : j < i := by
          have := (List.getElem?_eq_some_iff.mp hj).1
          rw [List.length_take] at this
          omega
        rw [List.getElem?_take, if_pos hji] at hj
        have hn := hll.nd
        rw [List.nodup_iff_pairwise_ne] at hn
        have h1 := (List.getElem?_eq_some_iff.mp hj)
        have h2 := (List.getElem?_eq_some_iff.mp hc)
        have := List.pairwise_iff_getElem.mp hn j i h1.1 h2.1 hji
        exact this (h1.2.trans h2.2.symm)
      | needs => exact absurd e1.symm e
      | way => exact absurd e1.symm e
      | more _ _ => exact absurd e1.symm e
      | apart =>
        have : total (leastLengths rules) [120] = 1 := by rw [total_cons, if_neg (by decide)]; rfl
        have hle' : x ≤ total (leastLengths rules) [120] := hle
        omega
      | way2 =>
        have : total (leastLengths rules) [113] = 1 := by rw [total_cons, if_neg (by decide)]; rfl
        have hle' : x ≤ total (leastLengths rules) [113] := hle
        omega
      | way0 =>
        have hn := (h.news w1 (by simp)).1
        have h5 := earlier w1 (by show w1 ∈ namesIn [w1]; rw [nam_one hn]; simp)
        have hle' : x ≤ total (leastLengths rules) [w1] := hle
        rw [total_one hn] at hle'
        omega
      | way1 =>
        have hn := (h.news w2 (by simp)).1
        have h5 := earlier w2 (by show w2 ∈ namesIn [w2]; rw [nam_one hn]; simp)
        have hle' : x ≤ total (leastLengths rules) [w2] := hle
        rw [total_one hn] at hle'
        omega
theorem Wd.short (h : Wd names nv ap w0 w1 w2 rules) (c : Nat) : (aGet (leastLengths rules) c).getD 0 ≤ 24 := by
  have hll := (ll_fin h.rok).1
  cases q : aGet (leastLengths rules) c with
  | none => simp
  | some x =>
    have hc : c ∈ (leastLengths rules).map (·.1) := Decidable.byContradiction fun z => by rw [aGet_none.mpr z] at q; cases q
    obtain ⟨i, hi⟩ := List.mem_iff_getElem?.mp hc
    have hb := h.bound i c hi
    rw [q] at hb
    have hcnt : cntW names (((leastLengths rules).map (·.1)).take (i + 1)) ≤ 2 := by
      have h1 := nodup_le (l := (((leastLengths rules).map (·.1)).take (i + 1)).filter fun x => decide (x ∈ names ∧ x ≠ dg names 0)) (s := names.erase (dg names 0)) (List.Pairwise.filter _ (hll.nd.sublist (List.take_sublist _ _))) (fun y hy => by
        have h2 := of_decide_eq_true (List.mem_filter.mp hy).2
        exact (List.mem_erase_of_ne h2.2).mpr h2.1)
      rw [List.length_erase_of_mem (dg_mem h.one)] at h1
      have := h.three
      unfold cntW
      omega
    have h3 := Nat.pow_le_pow_right (show 0 < 3 by decide) hcnt
    have hb' : x ≤ 2 * 3 ^ _ := hb
    show x ≤ 24
    omega
/-! ### steps -/
def gN : Nat → Nat
  | 0 => 0
  | k + 1 => 4 + 4 * gN k
theorem gN_mono : ∀ {a b : Nat}, a ≤ b → gN a ≤ gN b
  | a, 0, h => by
    have : a = 0 := by omega
    subst this
    exact Nat.le_refl _
  | a, b + 1, h => by
    rcases Nat.lt_or_ge a (b + 1) with h1 | h1
    · have := gN_mono (a := a) (b := b) (by omega)
      show _ ≤ 4 + 4 * gN b
      omega
    · have : a = b + 1 := by omega
      subst this
      exact Nat.le_refl _
def cntN (names : List Nat) (m : Best) : Nat := ((m.map (·.1)).filter fun x => decide (x ∈ names)).length
/-- the steps that a name may have -/
def StP (names : List Nat) (w0 w1 w2 : Nat) (m : Best) : Prop := ∀ c t, aGet m c = some t → (c ∈ names → t.a ≤ gN (cntN names m)) ∧ (c ∉ names → t.a ≤ if c = w0 then 3 else if c = w1 then 2 else 1)
theorem cntN_put {m : Best} {k : Nat} {x : Tri Nat (List Nat) Nat} : cntN names (aPut m k x) = cntN names m + (if k ∈ names ∧ (aGet m k).isSome = false then 1 else 0) := by
  unfold cntN
  rw [aPut_keys]
  cases hs : (aGet m k).isSome with
  | true => rw [if_pos rfl, if_neg (fun z => by cases z.2)]; rfl
  | false =>
    rw [if_neg Bool.false_ne_true, List.filter_append, List.length_append]
    by_cases hk : k ∈ names
    · rw [if_pos ⟨hk, rfl⟩]; simp [hk]
    · rw [if_neg (fun z => hk z.1)]; simp [hk]
theorem StP.part {w0 w1 w2 : Nat} {m : Best} (h : StP names w0 w1 w2 m) (c : Nat) : (c ∈ names → bS m c ≤ gN (cntN names m)) ∧ (c ∉ names → bS m c ≤ if c = w0 then 3 else if c = w1 then 2 else 1) := by
  unfold bS
  cases q : aGet m c with
  | none => exact ⟨fun _ => Nat.zero_le _, fun _ => Nat.zero_le _⟩
  | some t => exact h c t q
theorem steps_one {m : Best} {c : Nat} (h : nam c = true) : ldSteps m [c] = 1 + bS m c := by
  unfold ldSteps
  rw [nam_one h]
  simp
theorem steps_none {m : Best} {b : List Nat} (h : ∀ c ∈ b, sgn c = true) : ldSteps m b = 1 := by
  unfold ldSteps
  rw [no_names h]
  rfl
theorem Wd.step (h : Wd names nv ap w0 w1 w2 rules) {m : Best} {r : Rule} {n : Nat} (hp : StP names w0 w1 w2 m) (hm : r ∈ rules) (hd : allIn m r.2 = true) (hb : ldBetter m r = true) : StP names w0 w1 w2 (aPut m r.1 ⟨ldSteps m r.2, ldWord m r.2, n⟩) := by
  intro c t ht
  rw [aGet_put] at ht
  by_cases e : c = r.1
  · subst e
    rw [if_pos rfl] at ht
    cases ht
    rw [cntN_put]
    cases q : aGet m r.1 with
    | some t0 =>
      unfold ldBetter at hb
      rw [q] at hb
      have hle : ldSteps m r.2 ≤ t0.a := swL_le hb
      have h0 := hp r.1 t0 q
      rw [if_neg (fun z => by cases z.2)]
      exact ⟨fun z => Nat.le_trans hle (h0.1 z), fun z => Nat.le_trans hle (h0.2 z)⟩
    | none =>
      have d := h.dist
      simp only [List.nodup_cons, List.mem_cons, List.not_mem_nil, or_false, not_or, not_false_eq_true, List.nodup_nil, and_true] at d
      obtain ⟨⟨d1, d2, d3, d4⟩, ⟨d5, d6, d7⟩, ⟨d8, d9⟩, d10⟩ := d
      have hbase : dg names 0 ∈ names := dg_mem h.one
      have k1 := h.news nv (by simp)
      have k2 := h.news ap (by simp)
      have k3 := h.news w0 (by simp)
      have k4 := h.news w1 (by simp)
      have k5 := h.news w2 (by simp)
      have hone : ∀ c, (1 : Nat) ≤ if c = w0 then 3 else if c = w1 then 2 else 1 := fun c => by split <;> (try split) <;> omega
      show (r.1 ∈ names → ldSteps m r.2 ≤ _) ∧ (r.1 ∉ names → ldSteps m r.2 ≤ _)
      cases h.ru r hm with
      | inner hq =>
        refine ⟨fun z => ?_, fun z => absurd hq.hd z⟩
        rw [if_pos ⟨z, rfl⟩]
        show ldSteps m r.2 ≤ 4 + 4 * gN (cntN names m)
        unfold ldSteps
        have h2 := sum_le_mul (bS m) (gN (cntN names m)) (namesIn r.2) fun c hc => by
          have hcm := List.mem_filter.mp hc
          rcases hq.bd c hcm.1 with w | w
          · rw [sgn_not_nam w] at hcm; exact absurd hcm.2 Bool.false_ne_true
          · exact (hp.part c).1 w
        have h3 : (namesIn r.2).length * gN (cntN names m) ≤ 4 * gN (cntN names m) := Nat.mul_le_mul_right _ (Nat.le_trans (namesIn_le _) hq.few)
        omega
      | never =>
        have := (allIn_cons.mp (allIn_cons.mp hd).2).1 k1.1
        have q' : aGet m nv = none := q
        rw [q'] at this
        cases this
      | needs =>
        refine ⟨fun z => ?_, fun z => absurd hbase z⟩
        rw [if_pos ⟨z, rfl⟩]
        have e1 : ldSteps m [121, nv] = 1 + bS m nv := by
          unfold ldSteps
          rw [show namesIn [121, nv] = [nv] by unfold namesIn; rw [List.filter_cons, if_neg (by decide), List.filter_cons, if_pos k1.1]; rfl]
          simp
        have h5 := (hp.part nv).2 k1.2
        rw [if_neg (fun z => d2 z), if_neg (fun z => d3 z)] at h5
        show ldSteps m [121, nv] ≤ 4 + 4 * gN (cntN names m)
        omega
      | apart =>
        have e1 : ldSteps m [120] = 1 := steps_none (fun c hc => by simp at hc; subst hc; decide)
        refine ⟨fun z => absurd z k2.2, fun _ => ?_⟩
        rw [e1]
        exact hone ap
      | way =>
        refine ⟨fun z => ?_, fun z => absurd hbase z⟩
        rw [if_pos ⟨z, rfl⟩]
        have h5 := (hp.part w0).2 k3.2
        rw [if_pos rfl] at h5
        show ldSteps m [w0] ≤ 4 + 4 * gN (cntN names m)
        rw [steps_one k3.1]
        omega
      | way0 =>
        refine ⟨fun z => absurd z k3.2, fun _ => ?_⟩
        have h5 := (hp.part w1).2 k4.2
        rw [if_neg (fun z => d8 z.symm), if_pos rfl] at h5
        show ldSteps m [w1] ≤ _
        rw [steps_one k4.1, if_pos rfl]
        omega
      | way1 =>
        refine ⟨fun z => absurd z k4.2, fun _ => ?_⟩
        have h5 := (hp.part w2).2 k5.2
        rw [if_neg (fun z => d9 z.symm), if_neg (fun z => d10 z.symm)] at h5
        show ldSteps m [w2] ≤ _
        rw [steps_one k5.1, if_neg (fun z => d8 z.symm), if_pos rfl]
        omega
      | way2 =>
        have e1 : ldSteps m [113] = 1 := steps_none (fun c hc => by simp at hc; subst hc; decide)
        refine ⟨fun z => absurd z k5.2, fun _ => ?_⟩
        rw [e1]
        exact hone w2
      | more hb2 hs =>
        rename_i b
        refine ⟨fun z => ?_, fun z => absurd hbase z⟩
        rw [if_pos ⟨z, rfl⟩]
        show ldSteps m b ≤ 4 + 4 * gN (cntN names m)
        rw [steps_none hs]
        omega
  · rw [if_neg e] at ht
    have h0 := hp c t ht
    refine ⟨fun z => Nat.le_trans (h0.1 z) (gN_mono ?_), h0.2⟩
    rw [cntN_put]
    omega
/-- such a list is let -/
theorem Wd.ok (h : Wd names nv ap w0 w1 w2 rules) (h16 : rules.length ≤ 16) : (Gram.mk rules (dg names 0)).Ok := by
  obtain ⟨x0, hx0, _⟩ := h.root
  obtain ⟨r0, hr0, e1, _⟩ := h.en
  have pre : PreOk (Gram.mk rules (dg names 0)) := ⟨⟨List.length_pos_of_mem hr0, h16⟩, h.rok, List.mem_map.mpr ⟨r0, hr0, e1⟩, by show (aGet (leastLengths rules) (dg names 0)).isSome = true; rw [hx0]; rfl, fun n _ r _ => h.short r.1⟩
  have hst := best_keep pre (StP names w0 w1 w2) (fun c t ht => by cases ht) (fun m r n hp _ _ hm hd hb => h.step hp hm (by
    unfold ldDue at hd
    rw [Bool.and_eq_true] at hd
    exact hd.2) hb)
  refine pre.ok fun c t ht => ?_
  have h0 := hst c t ht
  by_cases hc : c ∈ names
  · have h1 := h0.1 hc
    have h2 : cntN names (Gram.mk rules (dg names 0)).best ≤ 3 := by
      have hnd : ((((Gram.mk rules (dg names 0)).best).map fun q : Nat × Tri Nat (List Nat) Nat => q.1).filter fun x => decide (x ∈ names)).Nodup := List.Pairwise.filter _ pre.bestOk.1.nd
      have := nodup_le (s := names) hnd (fun y hy => of_decide_eq_true (List.mem_filter.mp hy).2)
      have h3 := h.three
      unfold cntN
      omega
    have h3 := gN_mono h2
    have h4 : gN 3 = 84 := rfl
    omega
  · have h1 := h0.2 hc
    have : (if c = w0 then 3 else if c = w1 then 2 else 1) ≤ 3 := by split <;> (try split) <;> omega
    omega
end
end SF
namespace SF
def wdHeads (rules : List Rule) : List (List Nat) := rules.map (fun r => [r.1]) ++ rules.map fun r => r.2
def wdFree (rules : List Rule) : List Nat := letters.filter fun c => decide (c ∉ (wdHeads rules).flatten)
def wdMore (base nv ap : Nat) : List Rule := [(nv, [122, nv]), (base, [121, nv]), (ap, [120])]
def wdStep (d : List Nat) (more : List Rule) (w : List Rule) (k : Nat) : List Rule := if 0 < dg d (1 + k) % 3 then insAt w (dg d (4 + k) % (w.length + 1)) (more[k]?.getD (0, [])) else w
def wdWide (rules : List Rule) (base : Nat) (d : List Nat) : List Rule := (List.range 3).foldl (wdStep d (wdMore base (rd (wdFree rules) (dg d 0)) (rd (wdFree rules) (dg d 0 + 1)))) rules
def wdChain (base a b c : Nat) : List Rule := [(base, [a]), (a, [b]), (b, [c]), (c, [113])]
def lawWider (rules : List Rule) (base : Nat) (d : List Nat) : List Rule :=
  if dg d 7 % 2 = 0 then wdWide rules base d
  else
    let ch := wdChain base (rd (wdFree rules) (dg d 0 + 2 + 0)) (rd (wdFree rules) (dg d 0 + 2 + 1)) (rd (wdFree rules) (dg d 0 + 2 + 2))
    let ch2 := if dg d 8 % 2 = 1 then ch.reverse else ch
    if dg d 9 % 2 = 1 then wdWide rules base d ++ ch2 else ch2 ++ wdWide rules base d
theorem letters_nodup : letters.Nodup := letters_asc.imp fun h => Nat.ne_of_lt h
theorem filter_split {α : Type} (p : α → Bool) : ∀ l : List α, (l.filter p).length + (l.filter fun x => !p x).length = l.length
  | [] => rfl
  | a :: l => by
    have ih := filter_split p l
    rw [List.filter_cons, List.filter_cons, List.length_cons]
    cases h : p a with
    | true => simp; omega
    | false => simp; omega
theorem heads_mem {rules : List Rule} {c : Nat} : c ∈ (wdHeads rules).flatten ↔ ∃ r ∈ rules, c = r.1 ∨ c ∈ r.2 := by
  unfold wdHeads
  rw [List.mem_flatten]
  constructor
  · rintro ⟨l, hl, hc⟩
    rcases List.mem_append.mp hl with h | h
    · obtain ⟨r, hr, rfl⟩ := List.mem_map.mp h
      simp at hc
      exact ⟨r, hr, .inl hc⟩
    · obtain ⟨r, hr, rfl⟩ := List.mem_map.mp h
      exact ⟨r, hr, .inr hc⟩
  · rintro ⟨r, hr, h | h⟩
    · exact ⟨[r.1], List.mem_append_left _ (List.mem_map.mpr ⟨r, hr, rfl⟩), by simp [h]⟩
    · exact ⟨r.2, List.mem_append_right _ (List.mem_map.mpr ⟨r, hr, rfl⟩), h⟩
section
variable {names : List Nat} {rules : List Rule}
theorem free_len (h : Drawn names rules) (hlen : names.length ≤ 3) : 23 ≤ (wdFree rules).length := by
  have h1 := filter_split (fun c => decide (c ∉ (wdHeads rules).flatten)) letters
  have h2 : (letters.filter fun x => !decide (x ∉ (wdHeads rules).flatten)).length ≤ names.length := by
    refine nodup_le (List.Pairwise.filter _ letters_nodup) fun c hc => ?_
    obtain ⟨hc1, hc2⟩ := List.mem_filter.mp hc
    have hm : c ∈ (wdHeads rules).flatten := by simpa using hc2
    obtain ⟨r, hr, h3⟩ := heads_mem.mp hm
    have q := h.ru r hr
    rcases h3 with rfl | h3
    · exact q.hd
    · rcases q.bd c h3 with z | z
      · have := letters_mem.mp hc1
        rw [sgn_not_nam z] at this
        cases this
      · exact z
  have h3 : letters.length = 26 := rfl
  unfold wdFree
  omega
theorem free_nodup : (wdFree rules).Nodup := List.Pairwise.filter _ letters_nodup
theorem rd_ne {l : List Nat} (hn : l.Nodup) {a b : Nat} (hl : 23 ≤ l.length) (hab : a < b) (hb : b ≤ a + 22) : rd l a ≠ rd l b := by
  intro e
  unfold rd dg at e
  have ha : a % l.length < l.length := Nat.mod_lt _ (by omega)
  have hb2 : b % l.length < l.length := Nat.mod_lt _ (by omega)
  rw [List.getElem?_eq_getElem ha, List.getElem?_eq_getElem hb2] at e
  have e' : l[a % l.length] = l[b % l.length] := e
  have := (List.getElem_inj hn).mp e'
  have h1 := Nat.div_add_mod a l.length
  have h2 := Nat.div_add_mod b l.length
  have h3 : l.length * (b / l.length) - l.length * (a / l.length) = b - a := by omega
  have h4 : a / l.length ≤ b / l.length := Nat.div_le_div_right (by omega)
  rcases Nat.lt_or_ge (a / l.length) (b / l.length) with h5 | h5
  · have h6 := Nat.mul_le_mul_left l.length (show a / l.length + 1 ≤ b / l.length from h5)
    rw [Nat.mul_add] at h6
    omega
  · have h6 : a / l.length = b / l.length := by omega
    rw [h6] at h3
    omega
/-- the names that stand in the rules -/
theorem filter_first {l : List Nat} {p : Nat → Bool} (h : 1 ≤ l.length) (hp : p (dg l 0) = true) : dg (l.filter p) 0 = dg l 0 ∧ 1 ≤ (l.filter p).length := by
  cases l with
  | nil => simp at h
  | cons a l =>
    have hp' : p a = true := hp
    rw [List.filter_cons, if_pos hp']
    exact ⟨rfl, by simp⟩
theorem wdStep_mem {d : List Nat} {more w : List Rule} {k : Nat} {r : Rule} (h : r ∈ wdStep d more w k) : r ∈ w ∨ r = more[k]?.getD (0, []) := by
  unfold wdStep at h
  split at h
  · rcases insAt_mem.mp h with z | z
    · exact .inr z
    · exact .inl z
  · exact .inl h
theorem wdStep_sub {d : List Nat} {more w : List Rule} {k : Nat} {r : Rule} (h : r ∈ w) : r ∈ wdStep d more w k := by
  unfold wdStep
  split
  · exact insAt_mem.mpr (.inr h)
  · exact h
theorem wdStep_len {d : List Nat} {more w : List Rule} {k : Nat} : (wdStep d more w k).length ≤ w.length + 1 := by
  unfold wdStep
  split
  · rw [insAt_len (by have := Nat.mod_lt (dg d (4 + k)) (show w.length + 1 > 0 by omega); omega)]
    omega
  · omega
theorem wdWide_mem {base : Nat} {d : List Nat} {r : Rule} (h : r ∈ wdWide rules base d) : r ∈ rules ∨ r ∈ wdMore base (rd (wdFree rules) (dg d 0)) (rd (wdFree rules) (dg d 0 + 1)) := by
  unfold wdWide at h
  generalize rd (wdFree rules) (dg d 0) = nv at h ⊢
  generalize rd (wdFree rules) (dg d 0 + 1) = ap at h ⊢
  have h' : r ∈ wdStep d (wdMore base nv ap) (wdStep d (wdMore base nv ap) (wdStep d (wdMore base nv ap) rules 0) 1) 2 := h
  rcases wdStep_mem h' with h' | h'
  · rcases wdStep_mem h' with h' | h'
    · rcases wdStep_mem h' with h' | h'
      · exact .inl h'
      · right; rw [h']; unfold wdMore; simp
    · right; rw [h']; unfold wdMore; simp
  · right; rw [h']; unfold wdMore; simp
theorem wdWide_sub {base : Nat} {d : List Nat} {r : Rule} (h : r ∈ rules) : r ∈ wdWide rules base d := wdStep_sub (wdStep_sub (wdStep_sub h))
theorem wdWide_len {base : Nat} {d : List Nat} : (wdWide rules base d).length ≤ rules.length + 3 := by
  have h1 := wdStep_len (d := d) (more := wdMore base (rd (wdFree rules) (dg d 0)) (rd (wdFree rules) (dg d 0 + 1))) (w := rules) (k := 0)
  have h2 := wdStep_len (d := d) (more := wdMore base (rd (wdFree rules) (dg d 0)) (rd (wdFree rules) (dg d 0 + 1))) (w := wdStep d (wdMore base (rd (wdFree rules) (dg d 0)) (rd (wdFree rules) (dg d 0 + 1))) rules 0) (k := 1)
  have h3 := wdStep_len (d := d) (more := wdMore base (rd (wdFree rules) (dg d 0)) (rd (wdFree rules) (dg d 0 + 1))) (w := wdStep d (wdMore base (rd (wdFree rules) (dg d 0)) (rd (wdFree rules) (dg d 0 + 1))) (wdStep d (wdMore base (rd (wdFree rules) (dg d 0)) (rd (wdFree rules) (dg d 0 + 1))) rules 0) 1) (k := 2)
  show (wdStep _ _ (wdStep _ _ (wdStep _ _ rules 0) 1) 2).length ≤ _
  omega
theorem lawWider_len {base : Nat} {d : List Nat} : (lawWider rules base d).length ≤ rules.length + 7 := by
  have h := wdWide_len (rules := rules) (base := base) (d := d)
  unfold lawWider
  dsimp only
  split
  · omega
  · have hc : ∀ a b c : Nat, (wdChain base a b c).length = 4 := fun _ _ _ => rfl
    split <;> split <;> simp [hc] <;> omega
theorem lawWider_mem {base : Nat} {d : List Nat} {r : Rule} (h : r ∈ lawWider rules base d) : r ∈ rules ∨ r ∈ wdMore base (rd (wdFree rules) (dg d 0)) (rd (wdFree rules) (dg d 0 + 1)) ∨
    r ∈ wdChain base (rd (wdFree rules) (dg d 0 + 2 + 0)) (rd (wdFree rules) (dg d 0 + 2 + 1)) (rd (wdFree rules) (dg d 0 + 2 + 2)) := by
  unfold lawWider at h
  dsimp only at h
  have wide : r ∈ wdWide rules base d → r ∈ rules ∨ r ∈ wdMore base (rd (wdFree rules) (dg d 0)) (rd (wdFree rules) (dg d 0 + 1)) ∨
      r ∈ wdChain base (rd (wdFree rules) (dg d 0 + 2 + 0)) (rd (wdFree rules) (dg d 0 + 2 + 1)) (rd (wdFree rules) (dg d 0 + 2 + 2)) := fun z => by
    rcases wdWide_mem z with z | z
    · exact .inl z
    · exact .inr (.inl z)
  split at h
  · exact wide h
  · split at h <;> split at h <;> (rcases List.mem_append.mp h with z | z) <;> first | exact wide z | exact .inr (.inr z) | exact .inr (.inr (List.mem_reverse.mp z))
theorem lawWider_sub {base : Nat} {d : List Nat} {r : Rule} (h : r ∈ rules) : r ∈ lawWider rules base d := by
  have hw := wdWide_sub (base := base) (d := d) h
  unfold lawWider
  dsimp only
  split
  · exact hw
  · split <;> split <;> first | exact List.mem_append_left _ hw | exact List.mem_append_right _ hw
/-- the wider rules are such a list -/
theorem lawWider_wd (h : Drawn names rules) (hnn : ∀ c ∈ names, nam c = true) (h1 : 1 ≤ names.length) (hlen : names.length ≤ 3) (d : List Nat) :
    ∃ names', dg names' 0 = dg names 0 ∧ Wd names' (rd (wdFree rules) (dg d 0)) (rd (wdFree rules) (dg d 0 + 1)) (rd (wdFree rules) (dg d 0 + 2 + 0)) (rd (wdFree rules) (dg d 0 + 2 + 1)) (rd (wdFree rules) (dg d 0 + 2 + 2)) (lawWider rules (dg names 0) d) := by
  have hfl := free_len h hlen
  have hfn := free_nodup (rules := rules)
  obtain ⟨r0, hr0, e1, e2, e3⟩ := h.en
  have hroot : decide (dg names 0 ∈ (wdHeads rules).flatten) = true := decide_eq_true (heads_mem.mpr ⟨r0, hr0, .inl e1.symm⟩)
  obtain ⟨f1, f2⟩ := filter_first (p := fun c => decide (c ∈ (wdHeads rules).flatten)) h1 hroot
  refine ⟨names.filter fun c => decide (c ∈ (wdHeads rules).flatten), f1, ?_⟩
  have inr : ∀ r ∈ rules, RuD (names.filter fun c => decide (c ∈ (wdHeads rules).flatten)) r := fun r hr => by
    have q := h.ru r hr
    refine ⟨List.mem_filter.mpr ⟨q.hd, decide_eq_true (heads_mem.mpr ⟨r, hr, .inl rfl⟩)⟩, fun c hc => ?_, q.few, fun hne => q.less (by rw [f1] at hne; exact hne)⟩
    rcases q.bd c hc with z | z
    · exact .inl z
    · exact .inr (List.mem_filter.mpr ⟨z, decide_eq_true (heads_mem.mpr ⟨r, hr, .inr hc⟩)⟩)
  have hfree : ∀ n, rd (wdFree rules) n ∈ wdFree rules := fun n => rd_mem (by omega)
  refine ⟨fun r hr => ?_, ⟨r0, lawWider_sub hr0, by rw [f1]; exact e1, e2, e3⟩, fun c hc => hnn c (List.mem_filter.mp hc).1, f2, Nat.le_trans (List.length_filter_le _ _) hlen, fun c hc => ?_, ?_⟩
  · rcases lawWider_mem hr with z | z | z
    · exact .inner (inr r z)
    · unfold wdMore at z
      simp only [List.mem_cons, List.not_mem_nil, or_false] at z
      rcases z with rfl | rfl | rfl
      · exact .never
      · rw [← f1]; exact .needs
      · exact .apart
    · unfold wdChain at z
      simp only [List.mem_cons, List.not_mem_nil, or_false] at z
      rcases z with rfl | rfl | rfl | rfl
      · rw [← f1]; exact .way
      · exact .way0
      · exact .way1
      · exact .way2
  · have key : ∀ n, nam (rd (wdFree rules) n) = true ∧ rd (wdFree rules) n ∉ names.filter fun c => decide (c ∈ (wdHeads rules).flatten) := fun n => by
      obtain ⟨z1, z2⟩ := List.mem_filter.mp (hfree n)
      refine ⟨letters_mem.mp z1, fun z => ?_⟩
      have := (List.mem_filter.mp z).2
      have z2' := of_decide_eq_true z2
      exact z2' (of_decide_eq_true this)
    simp only [List.mem_cons, List.not_mem_nil, or_false] at hc
    rcases hc with rfl | rfl | rfl | rfl | rfl <;> exact key _
  · have ne : ∀ i j, i < j → j ≤ 4 → rd (wdFree rules) (dg d 0 + i) ≠ rd (wdFree rules) (dg d 0 + j) := fun i j h1 h2 => rd_ne hfn hfl (by omega) (by omega)
    have g01 := ne 0 1 (by omega) (by omega)
    have g02 := ne 0 2 (by omega) (by omega)
    have g03 := ne 0 3 (by omega) (by omega)
    have g04 := ne 0 4 (by omega) (by omega)
    have g12 := ne 1 2 (by omega) (by omega)
    have g13 := ne 1 3 (by omega) (by omega)
    have g14 := ne 1 4 (by omega) (by omega)
    have g23 := ne 2 3 (by omega) (by omega)
    have g24 := ne 2 4 (by omega) (by omega)
    have g34 := ne 3 4 (by omega) (by omega)
    simp only [Nat.add_zero, Nat.add_assoc] at g01 g02 g03 g04 g12 g13 g14 g23 g24 g34 ⊢
    simp only [List.nodup_cons, List.mem_cons, List.not_mem_nil, or_false, not_or, not_false_eq_true, List.nodup_nil, and_true]
    exact ⟨⟨g01, g02, g03, g04⟩, ⟨g12, g13, g14⟩, ⟨g23, g24⟩, g34⟩
/-- one more rule of the root, of up to four signs, at any place -/
theorem Wd.ins {nv ap w0 w1 w2 : Nat} {R : List Rule} (h : Wd names nv ap w0 w1 w2 R) {b : List Nat} (hb : b.length ≤ 4) (hs : ∀ c ∈ b, sgn c = true) (i : Nat) : Wd names nv ap w0 w1 w2 (insAt R i (dg names 0, b)) := by
  obtain ⟨r0, hr0, e⟩ := h.en
  exact ⟨fun r hr => by
    rcases insAt_mem.mp hr with rfl | hr
    · exact .more hb hs
    · exact h.ru r hr, ⟨r0, insAt_mem.mpr (.inr hr0), e⟩, h.nn, h.one, h.three, h.news, h.dist⟩
end
end SF
namespace SF
open PySem PySem.Spec PyProof.Rows L2
/-! ### a mirror's outcome: a datum, an error, or nothing that is known -/
structure Ex where
  cls : Nat
  fs : List (Str × V)
inductive M (α : Type) where
  | ok (a : α)
  | exc (e : Ex)
  | bad
namespace M
variable {α β γ σ : Type}
def bd : M α → (α → M β) → M β
  | .ok a, f => f a
  | .exc e, _ => .exc e
  | .bad, _ => .bad
def mp (m : M α) (f : α → β) : M β := m.bd fun x => .ok (f x)
def gd (p : Prop) [Decidable p] (m : M α) : M α := if p then m else .bad
def ite (m : M Bool) (a b : M α) : M α := m.bd fun c => if c = true then a else b
def of : Option α → M α
  | some x => .ok x
  | none => .bad
/-- nothing is let out -/
def nox : M α → M α
  | .exc _ => .bad
  | m => m
/-- a loop over data: next, break -/
def fr (body : σ → α → (σ → M β) → (σ → M β) → M β) (aft : σ → M β) : List α → σ → M β
  | [], s => aft s
  | x :: r, s => body s x (fr body aft r) aft
/-- a loop with fuel -/
def wh (body : σ → (σ → M β) → (σ → M β) → M β) (aft : σ → M β) : Nat → σ → M β
  | 0, _ => .bad
  | n + 1, s => body s (wh body aft n) aft
/-- a join: what follows two ways -/
def jn (rest : σ → M β) (body : (σ → M β) → M β) : M β := body rest
def lc (cond : α → M Bool) (elt : α → M β) : List α → M (List β)
  | [] => .ok []
  | x :: r => (cond x).nox.bd fun c => if c = true then (elt x).nox.bd fun y => (lc cond elt r).bd fun ys => .ok (y :: ys) else lc cond elt r
@[simp] theorem bd_ok (a : α) (f : α → M β) : (M.ok a).bd f = f a := rfl
@[simp] theorem bd_exc (e : Ex) (f : α → M β) : (M.exc e : M α).bd f = .exc e := rfl
@[simp] theorem bd_bad (f : α → M β) : (M.bad : M α).bd f = .bad := rfl
@[simp] theorem mp_ok (a : α) (f : α → β) : (M.ok a).mp f = .ok (f a) := rfl
theorem gd_pos {p : Prop} [Decidable p] {m : M α} (h : p) : gd p m = m := if_pos h
theorem gd_neg {p : Prop} [Decidable p] {m : M α} (h : ¬ p) : gd p m = .bad := if_neg h
@[simp] theorem ite_ok (c : Bool) (a b : M α) : (M.ite (.ok c) a b) = if c = true then a else b := rfl
@[simp] theorem of_some (x : α) : M.of (some x) = .ok x := rfl
@[simp] theorem of_none : M.of (none : Option α) = .bad := rfl
@[simp] theorem nox_ok (x : α) : (M.ok x).nox = .ok x := rfl
@[simp] theorem fr_nil (body : σ → α → (σ → M β) → (σ → M β) → M β) (aft : σ → M β) (s : σ) : fr body aft [] s = aft s := rfl
@[simp] theorem fr_cons (body : σ → α → (σ → M β) → (σ → M β) → M β) (aft : σ → M β) (x : α) (r : List α) (s : σ) : fr body aft (x :: r) s = body s x (fr body aft r) aft := rfl
theorem bd_assoc (m : M α) (f : α → M β) (g : β → M γ) : (m.bd f).bd g = m.bd fun x => (f x).bd g := by cases m <;> rfl
end M
/-! ### extended heaps: of what stands already only tuples may be frozen -/
def Nt : Option HO → Prop
  | none => False
  | some (.tup _) => False
  | _ => True
structure Xt (F H F' H' : Hp) : Prop where
  hh : Same H H'
  ff : Same F F'
  fh : Same F' H'
  nf : ∀ b, Nt (H b) → F b = none → F' b = none
theorem nt_some {o : Option HO} (h : Nt o) : ∃ u, o = some u := by
  cases o with
  | none => exact h.elim
  | some u => exact ⟨u, rfl⟩
theorem Ext.w {F H F' H' : Hp} (e : Ext F H F' H') : Xt F H F' H' := ⟨e.hh, e.ff, e.fh, fun b h f => e.nf b (fun z => by rw [z] at h; exact h) f⟩
namespace Xt
variable {F H F1 H1 F2 H2 : Hp} {p : Addr} {o : HO}
theorem refl (s : Same F H) : Xt F H F H := ⟨Same.refl _, Same.refl _, s, fun _ _ h => h⟩
theorem trans (a : Xt F H F1 H1) (b : Xt F1 H1 F2 H2) : Xt F H F2 H2 := ⟨a.hh.trans b.hh, a.ff.trans b.ff, b.fh, fun c hc hf => by
  refine b.nf c ?_ (a.nf c hc hf)
  obtain ⟨u, hu⟩ := nt_some hc
  rw [a.hh c u hu, ← hu]; exact hc⟩
theorem sF (e : Xt F H F1 H1) : Same F H1 := e.ff.trans e.fh
theorem free (e : Xt F H F1 H1) (hp : H1 p = none) : H p = none := e.hh.free hp
theorem freeF (e : Xt F H F1 H1) (hp : H1 p = none) : F1 p = none := e.fh.free hp
theorem newF (e : Xt F H F1 H1) (hp : H1 p = none) : Xt F H (upd F1 p o) (upd H1 p o) where
  hh := fun b u q => by rw [upd_ne (ne_of_none (e.hh b u q) hp)]; exact e.hh b u q
  ff := fun b u q => by rw [upd_ne (ne_of_none (e.fh b u (e.ff b u q)) hp)]; exact e.ff b u q
  fh := fun b u q => by
    by_cases hb : b = p
    · subst hb; rw [upd_same] at q ⊢; exact q
    · rw [upd_ne hb] at q ⊢; exact e.fh b u q
  nf := fun b hb hf => by
    have hbp : b ≠ p := by
      rintro rfl
      obtain ⟨u, hu⟩ := nt_some hb
      rw [e.hh b u hu] at hp; cases hp
    rw [upd_ne hbp]; exact e.nf b hb hf
theorem newM (e : Xt F H F1 H1) (hp : H1 p = none) : Xt F H F1 (upd H1 p o) where
  hh := fun b u q => by rw [upd_ne (ne_of_none (e.hh b u q) hp)]; exact e.hh b u q
  ff := e.ff
  fh := fun b u q => by rw [upd_ne (ne_of_none (e.fh b u q) hp)]; exact e.fh b u q
  nf := e.nf
theorem set (e : Xt F H F1 H1) (hp : H p = none) (hf : F1 p = none) : Xt F H F1 (upd H1 p o) where
  hh := fun b u q => by rw [upd_ne (ne_of_none q hp)]; exact e.hh b u q
  ff := e.ff
  fh := fun b u q => by rw [upd_ne (ne_of_none q hf)]; exact e.fh b u q
  nf := e.nf
theorem frz (e : Xt F H F1 H1) (hp : H p = none) (h1 : H1 p = some o) (hf : F1 p = none) : Xt F H (upd F1 p o) H1 where
  hh := e.hh
  ff := fun b u q => by rw [upd_ne (ne_of_none (e.ff b u q) hf)]; exact e.ff b u q
  fh := fun b u q => by
    by_cases hb : b = p
    · subst hb; rw [upd_same] at q; cases q; exact h1
    · rw [upd_ne hb] at q; exact e.fh b u q
  nf := fun b hb hfb => by
    have hbp : b ≠ p := by
      rintro rfl
      rw [hp] at hb; exact hb
    rw [upd_ne hbp]; exact e.nf b hb hfb
/-- a tuple that stands may always be frozen -/
theorem tup {xs : List V} (e : Xt F H F1 H1) (h1 : H1 p = some (.tup xs)) : Xt F H (upd F1 p (.tup xs)) H1 where
  hh := e.hh
  ff := fun b u q => by
    by_cases hb : b = p
    · subst hb
      rw [upd_same]
      have := e.sF b u q
      rw [h1] at this; exact this
    · rw [upd_ne hb]; exact e.ff b u q
  fh := fun b u q => by
    by_cases hb : b = p
    · subst hb; rw [upd_same] at q; cases q; exact h1
    · rw [upd_ne hb] at q; exact e.fh b u q
  nf := fun b hb hfb => by
    have hbp : b ≠ p := by
      rintro rfl
      obtain ⟨u, hu⟩ := nt_some hb
      have := e.hh b u hu
      rw [h1] at this
      cases this
      rw [hu] at hb; exact hb
    rw [upd_ne hbp]; exact e.nf b hb hfb
end Xt
/-- what may change: new since H0, not frozen, it stands as o -/
structure Own (H0 F H : Hp) (a : Addr) (o : HO) : Prop where
  new : H0 a = none
  nof : F a = none
  at_ : H a = some o
  mu : Nt (some o)
theorem Own.up {H0 F H F1 H1 : Hp} {a : Addr} {o : HO} (w : Own H0 F H a o) (e : Xt F H F1 H1) : Own H0 F1 H1 a o := ⟨w.new, e.nf a (by rw [w.at_]; exact w.mu) w.nof, e.hh _ _ w.at_, w.mu⟩
/-- a is changed to o, all else stays -/
structure Chg (a : Addr) (o : HO) (F H F1 H1 : Hp) : Prop where
  ff : Same F F1
  oth : ∀ b u, b ≠ a → H b = some u → H1 b = some u
  nf : ∀ b, Nt (H b) → F b = none → F1 b = none
  at_ : H1 a = some o
theorem Own.oth {H0 F H F1 H1 : Hp} {a b : Addr} {o u : HO} (w : Own H0 F H b u) (c : Chg a o F H F1 H1) (ne : b ≠ a) : Own H0 F1 H1 b u := ⟨w.new, c.nf b (by rw [w.at_]; exact w.mu) w.nof, c.oth _ _ ne w.at_, w.mu⟩
theorem Own.set {H0 F H F1 H1 : Hp} {a : Addr} {o u : HO} (w : Own H0 F H a u) (c : Chg a o F H F1 H1) (m : Nt (some o)) : Own H0 F1 H1 a o := ⟨w.new, c.nf a (by rw [w.at_]; exact w.mu) w.nof, c.at_, m⟩
theorem Own.chg {F0 H0 F H F1 H1 : Hp} {a : Addr} {u o : HO} (w : Own H0 F H a u) (e0 : Xt F0 H0 F H) (e : Xt F H F1 H1) : Xt F0 H0 F1 (upd H1 a o) ∧ Chg a o F H F1 (upd H1 a o) :=
  ⟨(e0.trans e).set w.new (w.up e).nof, e.ff, fun b v hb q => by rw [upd_ne hb]; exact e.hh _ _ q, e.nf, upd_same⟩
theorem Own.ne {H0 F H : Hp} {a p : Addr} {o : HO} (w : Own H0 F H a o) (hp : H p = none) : a ≠ p := ne_of_none w.at_ hp
/-! ### relations -/
abbrev R3 (α : Type) := Hp → Hp → Hp → V → α → Prop
def fz {α : Type} (r : Rl α) : R3 α := fun _ F _ v x => r F v x
def qS : Rl (List Nat) := fun _ v x => v = .str (S x) ∧ x.length ≤ sizeLine
def qN : Rl Unit := fun _ v _ => v = .non
def qX : Rl Unit := fun _ _ _ => True
def qL {α : Type} (r : Rl α) : Rl (List α) := fun F v xs => ∃ a vs, v = .ref a ∧ F a = some (.lst vs) ∧ Al r F vs xs ∧ xs.length ≤ sizeLine
def qT3 {α β γ : Type} (r : Rl α) (s : Rl β) (t : Rl γ) : Rl (α × β × γ) := fun F v x => ∃ a u w z, v = .ref a ∧ F a = some (.tup [u, w, z]) ∧ r F u x.1 ∧ s F w x.2.1 ∧ t F z x.2.2
def qT4 {α β γ δ : Type} (r : Rl α) (s : Rl β) (t : Rl γ) (q : Rl δ) : Rl (α × β × γ × δ) := fun F v x => ∃ a u w z y, v = .ref a ∧ F a = some (.tup [u, w, z, y]) ∧ r F u x.1 ∧ s F w x.2.1 ∧ t F z x.2.2.1 ∧ q F y x.2.2.2
section
variable {κ α : Type} [DecidableEq κ]
def qD (enc : κ → Key) (r : Rl α) : Rl (List (κ × α)) := fun F v m => ∃ a kvs, v = .ref a ∧ F a = some (.dK kvs) ∧ AD enc r F kvs m ∧ m.length ≤ sizeLine
def qDT (enc : κ → List Key) (r : Rl α) : Rl (List (κ × α)) := fun F v m => ∃ a kvs, v = .ref a ∧ F a = some (.dT kvs) ∧ AD enc r F kvs m ∧ m.length ≤ sizeLine
end
section
variable {α β γ δ : Type} {r : Rl α} {s : Rl β} {t : Rl γ} {q : Rl δ} [Mono r] [Mono s] [Mono t] [Mono q]
instance : Mono qS := ⟨fun _ h => h⟩
instance : Mono qN := ⟨fun _ h => h⟩
instance : Mono qX := ⟨fun _ h => h⟩
instance : Mono (qL r) := ⟨fun e h => by
  obtain ⟨a, vs, e1, h1, h2, h3⟩ := h
  exact ⟨a, vs, e1, e _ _ h1, h2.mono e, h3⟩⟩
instance : Mono (qT3 r s t) := ⟨fun e h => by
  obtain ⟨a, u, w, z, e1, h0, h1, h2, h3⟩ := h
  exact ⟨a, u, w, z, e1, e _ _ h0, Mono.mono e h1, Mono.mono e h2, Mono.mono e h3⟩⟩
instance : Mono (qT4 r s t q) := ⟨fun e h => by
  obtain ⟨a, u, w, z, y, e1, h0, h1, h2, h3, h4⟩ := h
  exact ⟨a, u, w, z, y, e1, e _ _ h0, Mono.mono e h1, Mono.mono e h2, Mono.mono e h3, Mono.mono e h4⟩⟩
end
section
variable {κ α : Type} [DecidableEq κ] {r : Rl α} [Mono r]
instance {enc : κ → Key} : Mono (qD enc r) := ⟨fun e h => by
  obtain ⟨a, kvs, e1, h1, h2, h3⟩ := h
  exact ⟨a, kvs, e1, e _ _ h1, h2.mono e, h3⟩⟩
instance {enc : κ → List Key} : Mono (qDT enc r) := ⟨fun e h => by
  obtain ⟨a, kvs, e1, h1, h2, h3⟩ := h
  exact ⟨a, kvs, e1, e _ _ h1, h2.mono e, h3⟩⟩
end
/-- a list that stands (it may change later) -/
def lb {α : Type} (r : Rl α) : R3 (List α) := fun _ F H v xs => ∃ a vs, v = .ref a ∧ H a = some (.lst vs) ∧ Al r F vs xs ∧ xs.length ≤ sizeLine
/-- a new list, not frozen -/
def nw {α : Type} (r : Rl α) : R3 (List α) := fun H0 F H v xs => ∃ a vs, v = .ref a ∧ H0 a = none ∧ F a = none ∧ H a = some (.lst vs) ∧ Al r F vs xs ∧ xs.length ≤ sizeLine
section
variable {κ α : Type} [DecidableEq κ]
def db (enc : κ → Key) (r : Rl α) : R3 (List (κ × α)) := fun _ F H v m => ∃ a kvs, v = .ref a ∧ H a = some (.dK kvs) ∧ AD enc r F kvs m ∧ m.length ≤ sizeLine
def dn (enc : κ → Key) (r : Rl α) : R3 (List (κ × α)) := fun H0 F H v m => ∃ a kvs, v = .ref a ∧ H0 a = none ∧ F a = none ∧ H a = some (.dK kvs) ∧ AD enc r F kvs m ∧ m.length ≤ sizeLine
def dbT (enc : κ → List Key) (r : Rl α) : R3 (List (κ × α)) := fun _ F H v m => ∃ a kvs, v = .ref a ∧ H a = some (.dT kvs) ∧ AD enc r F kvs m ∧ m.length ≤ sizeLine
def dnT (enc : κ → List Key) (r : Rl α) : R3 (List (κ × α)) := fun H0 F H v m => ∃ a kvs, v = .ref a ∧ H0 a = none ∧ F a = none ∧ H a = some (.dT kvs) ∧ AD enc r F kvs m ∧ m.length ≤ sizeLine
end
class Dn {ω α : Type} (R : Hp → Hp → Hp → ω → α → Prop) : Prop where
  dn : ∀ {H1 H2 F H : Hp} {v : ω} {x : α}, Same H1 H2 → R H2 F H v x → R H1 F H v x
instance {α : Type} {r : Rl α} : Dn (fz r) := ⟨fun _ h => h⟩
instance {α : Type} {r : Rl α} : Dn (lb r) := ⟨fun _ h => h⟩
instance {α : Type} {r : Rl α} : Dn (nw r) := ⟨fun s h => by
  obtain ⟨a, vs, e, h0, h⟩ := h
  exact ⟨a, vs, e, s.free h0, h⟩⟩
section
variable {κ α : Type} [DecidableEq κ] {enc : κ → Key} {encT : κ → List Key} {r : Rl α}
instance : Dn (db enc r) := ⟨fun _ h => h⟩
instance : Dn (dbT encT r) := ⟨fun _ h => h⟩
instance : Dn (dn enc r) := ⟨fun s h => by
  obtain ⟨a, vs, e, h0, h⟩ := h
  exact ⟨a, vs, e, s.free h0, h⟩⟩
instance : Dn (dnT encT r) := ⟨fun s h => by
  obtain ⟨a, vs, e, h0, h⟩ := h
  exact ⟨a, vs, e, s.free h0, h⟩⟩
end
/-! ### computations -/
def exD (e : Ex) (d : Option Addr) (H : Hp) : Prop := ∃ dx, d = some dx ∧ H dx = some (.xd e.fs)
/-- whether errors may leave, what is wanted of them, where their classes stand -/
structure Xw where
  on : Prop
  E : XK
  cl : Nat → Addr
def Out (w : Xw) (F H : Hp) (e : Ex) : Prop := w.on ∧ ∀ F2 H2 d, Xt F H F2 H2 → exD e d H2 → w.E (.ref (w.cl e.cls)) d H2
theorem Out.up {w : Xw} {F H F1 H1 : Hp} {e : Ex} (h : Out w F H e) (x : Xt F H F1 H1) : Out w F1 H1 e := ⟨h.1, fun F2 H2 d y => h.2 F2 H2 d (x.trans y)⟩
/-- what a def's end wants: the data that come out, the entry -/
structure Cxt (β : Type) where
  w : Xw
  Q : VK
  rr : R3 β
  F0 : Hp
  H0 : Hp
def Po {β : Type} (c : Cxt β) : M β → Prop
  | .ok y => ∀ v F' H', Xt c.F0 c.H0 F' H' → c.rr c.H0 F' H' v y → c.Q v H'
  | .exc e => Out c.w c.F0 c.H0 e
  | .bad => False
/-- here and now C computes m: what is wanted holds if it holds of every value that bears the datum -/
def EvN {ω α : Type} (w : Xw) (C : Hp → (ω → Hp → Prop) → Prop) (R : Hp → Hp → Hp → ω → α → Prop) (m : M α) (F H : Hp) : Prop :=
  match m with
    | .ok x => ∀ Q, (∀ v F2 H2, Xt F H F2 H2 → R H F2 H2 v x → Q v H2) → C H Q
    | .exc e => Out w F H e → ∀ Q, C H Q
    | .bad => True
/-- .. and at every extension -/
def EvC {ω α : Type} (w : Xw) (C : Hp → (ω → Hp → Prop) → Prop) (R : Hp → Hp → Hp → ω → α → Prop) (m : M α) (F H : Hp) : Prop := ∀ F1 H1, Xt F H F1 H1 → EvN w C R m F1 H1
section
variable {w : Xw} {ω ω' α β : Type} {C : Hp → (ω → Hp → Prop) → Prop} {R : Hp → Hp → Hp → ω → α → Prop} {m : M α} {F H F1 H1 : Hp}
theorem EvC.up (h : EvC w C R m F H) (e : Xt F H F1 H1) : EvC w C R m F1 H1 := fun F2 H2 e2 => h F2 H2 (e.trans e2)
theorem EvN.bind {D : ω → Hp → (ω' → Hp → Prop) → Prop} {R' : Hp → Hp → Hp → ω' → β → Prop} [Dn R'] {f : α → M β} (h1 : EvN w C R m F H)
    (k : ∀ x v F2 H2, Xt F H F2 H2 → R H F2 H2 v x → EvN w (D v) R' (f x) F2 H2) : EvN w (fun H Q => C H fun v H' => D v H' Q) R' (m.bd f) F H := by
  cases m with
  | bad => trivial
  | exc e => exact fun o Q => h1 o _
  | ok x =>
    have h2 := fun v F2 H2 e2 hr => k x v F2 H2 e2 hr
    show EvN w _ R' (f x) F H
    cases hf : f x with
    | bad => trivial
    | ok y =>
      rw [hf] at h2
      exact fun Q q => h1 _ fun v F2 H2 e2 hr => h2 v F2 H2 e2 hr Q fun w F3 H3 e3 hw => q w F3 H3 (e2.trans e3) (Dn.dn e2.hh hw)
    | exc e =>
      rw [hf] at h2
      exact fun o Q => h1 _ fun v F2 H2 e2 hr => h2 v F2 H2 e2 hr (o.up e2) Q
theorem EvC.bind {D : ω → Hp → (ω' → Hp → Prop) → Prop} {R' : Hp → Hp → Hp → ω' → β → Prop} [Dn R'] {f : α → M β} (h : EvC w C R m F H)
    (k : ∀ x v F1 H1 F2 H2, Xt F H F1 H1 → Xt F1 H1 F2 H2 → R H1 F2 H2 v x → EvN w (D v) R' (f x) F2 H2) : EvC w (fun H Q => C H fun v H' => D v H' Q) R' (m.bd f) F H :=
  fun F1 H1 e1 => EvN.bind (h F1 H1 e1) fun x v F2 H2 e2 hr => k x v F1 H1 F2 H2 e1 e2 hr
/-- a last step that lets out no error -/
theorem EvC.last {D : ω → Hp → (ω' → Hp → Prop) → Prop} {R' : Hp → Hp → Hp → ω' → β → Prop} [Dn R'] {f : α → M β} (h : EvC w C R m F H)
    (hf : ∀ x, (∃ y, f x = .ok y) ∨ f x = .bad)
    (k : ∀ x y v F1 H1 F2 H2, f x = .ok y → Xt F H F1 H1 → Xt F1 H1 F2 H2 → R H1 F2 H2 v x → ∀ Q, (∀ u F3 H3, Xt F2 H2 F3 H3 → R' H2 F3 H3 u y → Q u H3) → D v H2 Q) : EvC w (fun H Q => C H fun v H' => D v H' Q) R' (m.bd f) F H := by
  refine EvC.bind h fun x v F1 H1 F2 H2 e1 e2 hr => ?_
  rcases hf x with ⟨y, hy⟩ | hy
  · rw [hy]
    exact k x y v F1 H1 F2 H2 hy e1 e2 hr
  · rw [hy]; trivial
theorem EvC.run {β : Type} {c : Cxt β} {C : Hp → (ω → Hp → Prop) → Prop} {k : α → M β} {Q : ω → Hp → Prop} (ev : EvC c.w C R m F H) (e0 : Xt c.F0 c.H0 F H) (h : Po c (m.bd k))
    (go : ∀ x v F1 H1, Xt F H F1 H1 → R H F1 H1 v x → Po c (k x) → Q v H1) : C H Q := by
  have h1 := ev F H (Xt.refl e0.fh)
  cases m with
  | bad => exact h.elim
  | exc e => exact h1 (Out.up h e0) Q
  | ok x => exact h1 Q fun v F2 H2 e2 hr => go x v F2 H2 e2 hr h
end
end SF
namespace SF
open PySem PySem.Spec PyProof.Rows L2
/-! ### relations that outlast what comes later; that do not look at the start -/
class Up {ω α : Type} (R : Hp → Hp → Hp → ω → α → Prop) : Prop where
  up : ∀ {H0 F H F1 H1 : Hp} {v : ω} {x : α}, Xt F H F1 H1 → R H0 F H v x → R H0 F1 H1 v x
class Fl {ω α : Type} (R : Hp → Hp → Hp → ω → α → Prop) : Prop where
  fl : ∀ {H0 H0' F H : Hp} {v : ω} {x : α}, R H0 F H v x → R H0' F H v x
instance {α : Type} {r : Rl α} [Mono r] : Up (fz r) := ⟨fun e h => Mono.mono (r := r) e.ff h⟩
instance {α : Type} {r : Rl α} [Mono r] : Up (lb r) := ⟨fun e h => by
  obtain ⟨a, vs, e1, h1, h2, h3⟩ := h
  exact ⟨a, vs, e1, e.hh _ _ h1, h2.mono e.ff, h3⟩⟩
instance {α : Type} {r : Rl α} [Mono r] : Up (nw r) := ⟨fun e h => by
  obtain ⟨a, vs, e1, h0, hf, h1, h2, h3⟩ := h
  exact ⟨a, vs, e1, h0, e.nf _ (by rw [h1]; trivial) hf, e.hh _ _ h1, h2.mono e.ff, h3⟩⟩
instance {α : Type} {r : Rl α} : Fl (fz r) := ⟨fun h => h⟩
instance {α : Type} {r : Rl α} : Fl (lb r) := ⟨fun h => h⟩
section
variable {κ α : Type} [DecidableEq κ] {enc : κ → Key} {encT : κ → List Key} {r : Rl α} [Mono r]
instance : Up (db enc r) := ⟨fun e h => by
  obtain ⟨a, vs, e1, h1, h2, h3⟩ := h
  exact ⟨a, vs, e1, e.hh _ _ h1, h2.mono e.ff, h3⟩⟩
instance : Up (dbT encT r) := ⟨fun e h => by
  obtain ⟨a, vs, e1, h1, h2, h3⟩ := h
  exact ⟨a, vs, e1, e.hh _ _ h1, h2.mono e.ff, h3⟩⟩
instance : Up (dn enc r) := ⟨fun e h => by
  obtain ⟨a, vs, e1, h0, hf, h1, h2, h3⟩ := h
  exact ⟨a, vs, e1, h0, e.nf _ (by rw [h1]; trivial) hf, e.hh _ _ h1, h2.mono e.ff, h3⟩⟩
instance : Up (dnT encT r) := ⟨fun e h => by
  obtain ⟨a, vs, e1, h0, hf, h1, h2, h3⟩ := h
  exact ⟨a, vs, e1, h0, e.nf _ (by rw [h1]; trivial) hf, e.hh _ _ h1, h2.mono e.ff, h3⟩⟩
omit [Mono r] in
instance : Fl (db enc r) := ⟨fun h => h⟩
omit [Mono r] in
instance : Fl (dbT encT r) := ⟨fun h => h⟩
end
def teq : Hp → Hp → Hp → Bool → Bool → Prop := fun _ _ _ b x => b = x
instance : Dn teq := ⟨fun _ h => h⟩
instance : Up teq := ⟨fun _ h => h⟩
instance : Fl teq := ⟨fun h => h⟩
theorem gd_or {α : Type} {p : Prop} [Decidable p] {x : α} : (∃ y, M.gd p (.ok x) = .ok y) ∨ M.gd p (.ok x : M α) = .bad := by
  unfold M.gd
  split
  · exact .inl ⟨_, rfl⟩
  · exact .inr rfl
theorem of_or {α : Type} {x : Option α} : (∃ y, M.of x = .ok y) ∨ M.of x = .bad := by
  cases x
  · exact .inr rfl
  · exact .inl ⟨_, rfl⟩
theorem gd_ok {α : Type} {p : Prop} [Decidable p] {x y : α} (h : M.gd p (.ok x) = .ok y) : p ∧ y = x := by
  unfold M.gd at h
  split at h
  · rename_i q
    cases h
    exact ⟨q, rfl⟩
  · cases h
theorem of_ok {α : Type} {x : Option α} {y : α} (h : M.of x = .ok y) : x = some y := by
  cases x
  · cases h
  · cases h; rfl
section
variable {w : Xw} {σ : L2.St} {F H : Hp} {K : PySem.W.Frag} {α β γ δ : Type}
/-! ### coercions -/
theorem e_mp {ω : Type} {C : Hp → (ω → Hp → Prop) → Prop} {R R' : Hp → Hp → Hp → ω → α → Prop} {m : M α} (h : EvC w C R m F H) (f : ∀ H0 F H v x, R H0 F H v x → R' H0 F H v x) : EvC w C R' m F H := by
  intro F1 H1 e1
  have h1 := h F1 H1 e1
  cases m with
  | bad => trivial
  | exc e => exact h1
  | ok x => exact fun Q q => h1 Q fun v F2 H2 e2 hr => q v F2 H2 e2 (f _ _ _ _ _ hr)
theorem e_cv {C : Hp → (V → Hp → Prop) → Prop} {r : Rl α} {r' : Rl β} {m : M α} {f : α → β} (h : EvC w C (fz r) m F H) (hf : ∀ F v x, r F v x → r' F v (f x)) : EvC w C (fz r') (m.bd fun x => .ok (f x)) F H := by
  intro F1 H1 e1
  have h1 := h F1 H1 e1
  cases m with
  | bad => trivial
  | exc e => exact h1
  | ok x => exact fun Q q => h1 Q fun v F2 H2 e2 hr => q v F2 H2 e2 (hf _ _ _ hr)
/-- .. where it may not go -/
theorem e_cvM {C : Hp → (V → Hp → Prop) → Prop} {r : Rl α} {r' : Rl β} {m : M α} {f : α → M β} (h : EvC w C (fz r) m F H) (ho : ∀ x, (∃ y, f x = .ok y) ∨ f x = .bad) (hf : ∀ F v x y, r F v x → f x = .ok y → r' F v y) : EvC w C (fz r') (m.bd f) F H := by
  intro F1 H1 e1
  have h1 := h F1 H1 e1
  cases m with
  | bad => trivial
  | exc e => exact h1
  | ok x =>
    show EvN w C _ (f x) F1 H1
    rcases ho x with ⟨y, hy⟩ | hy
    · rw [hy]
      exact fun Q q => h1 Q fun v F2 H2 e2 hr => q v F2 H2 e2 (hf _ _ _ _ hr hy)
    · rw [hy]; trivial
theorem e_ui {C : Hp → (V → Hp → Prop) → Prop} {m : M Nat} (h : EvC w C (fz rNat) m F H) : EvC w C (fz rI) (m.bd fun x => .ok (x : Int)) F H := e_cv h fun _ _ _ h => h
theorem e_iu {C : Hp → (V → Hp → Prop) → Prop} {m : M Int} (h : EvC w C (fz rI) m F H) : EvC w C (fz rNat) (m.bd fun x => M.gd (0 ≤ x) (.ok x.toNat)) F H := e_cvM h (fun _ => gd_or) fun _ v x y hr hy => by
  obtain ⟨h1, rfl⟩ := gd_ok hy
  show v = .int _
  rw [show v = .int x from hr, Int.toNat_of_nonneg h1]
theorem one_le : 1 ≤ sizeLine := by rw [sl64]; decide
theorem e_cs {C : Hp → (V → Hp → Prop) → Prop} {m : M Nat} (h : EvC w C (fz rC) m F H) : EvC w C (fz qS) (m.bd fun x => .ok [x]) F H := e_cv h fun _ _ _ h => ⟨h, one_le⟩
def toC : List Nat → Option Nat
  | [c] => some c
  | _ => none
theorem e_sc {C : Hp → (V → Hp → Prop) → Prop} {m : M (List Nat)} (h : EvC w C (fz qS) m F H) : EvC w C (fz rC) (m.bd fun x => M.of (toC x)) F H := e_cvM h (fun _ => of_or) fun _ v x y hr hy => by
  have := of_ok hy
  obtain ⟨rfl, _⟩ := hr
  match x, this with
  | [c], h => cases h; rfl
theorem e_some {C : Hp → (V → Hp → Prop) → Prop} {r : Rl α} {m : M α} (h : EvC w C (fz r) m F H) : EvC w C (fz (rO r)) (m.bd fun x => .ok (some x)) F H := e_cv h fun _ _ _ h => h
/-- a new list is frozen -/
theorem e_frz {C : Hp → (V → Hp → Prop) → Prop} {r : Rl α} [Mono r] {m : M (List α)} (h : EvC w C (nw r) m F H) : EvC w C (fz (qL r)) m F H := by
  intro F1 H1 e1
  have h1 := h F1 H1 e1
  cases m with
  | bad => trivial
  | exc e => exact h1
  | ok x => exact fun Q q => h1 Q fun v F2 H2 e2 ⟨a, vs, e, h0, hf, hh, al, hz⟩ => q v _ H2 (e2.frz h0 hh hf) ⟨a, vs, e, upd_same, al.mono (fun b u z => by rw [upd_ne (ne_of_none z hf)]; exact z), hz⟩
section
variable {κ : Type} [DecidableEq κ] {enc : κ → Key} {encT : κ → List Key} {r : Rl α} [Mono r]
theorem e_frzD {C : Hp → (V → Hp → Prop) → Prop} {m : M (List (κ × α))} (h : EvC w C (dn enc r) m F H) : EvC w C (fz (qD enc r)) m F H := by
  intro F1 H1 e1
  have h1 := h F1 H1 e1
  cases m with
  | bad => trivial
  | exc e => exact h1
  | ok x => exact fun Q q => h1 Q fun v F2 H2 e2 ⟨a, vs, e, h0, hf, hh, al, hz⟩ => q v _ H2 (e2.frz h0 hh hf) ⟨a, vs, e, upd_same, al.mono (fun b u z => by rw [upd_ne (ne_of_none z hf)]; exact z), hz⟩
theorem e_frzT {C : Hp → (V → Hp → Prop) → Prop} {m : M (List (κ × α))} (h : EvC w C (dnT encT r) m F H) : EvC w C (fz (qDT encT r)) m F H := by
  intro F1 H1 e1
  have h1 := h F1 H1 e1
  cases m with
  | bad => trivial
  | exc e => exact h1
  | ok x => exact fun Q q => h1 Q fun v F2 H2 e2 ⟨a, vs, e, h0, hf, hh, al, hz⟩ => q v _ H2 (e2.frz h0 hh hf) ⟨a, vs, e, upd_same, al.mono (fun b u z => by rw [upd_ne (ne_of_none z hf)]; exact z), hz⟩
end
/-- what is frozen stands; what is new stands -/
theorem e_lb {C : Hp → (V → Hp → Prop) → Prop} {r : Rl α} {m : M (List α)} (h : EvC w C (fz (qL r)) m F H) : EvC w C (lb r) m F H := by
  intro F1 H1 e1
  have h1 := h F1 H1 e1
  cases m with
  | bad => trivial
  | exc e => exact h1
  | ok x => exact fun Q q => h1 Q fun v F2 H2 e2 ⟨a, vs, e, hh, al, hz⟩ => q v _ H2 e2 ⟨a, vs, e, e2.fh _ _ hh, al, hz⟩
theorem e_nlb {C : Hp → (V → Hp → Prop) → Prop} {r : Rl α} {m : M (List α)} (h : EvC w C (nw r) m F H) : EvC w C (lb r) m F H := e_mp h fun _ _ _ _ _ ⟨a, vs, e, _, _, hh, al, hz⟩ => ⟨a, vs, e, hh, al, hz⟩
section
variable {κ : Type} [DecidableEq κ] {enc : κ → Key} {encT : κ → List Key} {r : Rl α}
theorem e_db {C : Hp → (V → Hp → Prop) → Prop} {m : M (List (κ × α))} (h : EvC w C (fz (qD enc r)) m F H) : EvC w C (db enc r) m F H := by
  intro F1 H1 e1
  have h1 := h F1 H1 e1
  cases m with
  | bad => trivial
  | exc e => exact h1
  | ok x => exact fun Q q => h1 Q fun v F2 H2 e2 ⟨a, vs, e, hh, al, hz⟩ => q v _ H2 e2 ⟨a, vs, e, e2.fh _ _ hh, al, hz⟩
theorem e_dbT {C : Hp → (V → Hp → Prop) → Prop} {m : M (List (κ × α))} (h : EvC w C (fz (qDT encT r)) m F H) : EvC w C (dbT encT r) m F H := by
  intro F1 H1 e1
  have h1 := h F1 H1 e1
  cases m with
  | bad => trivial
  | exc e => exact h1
  | ok x => exact fun Q q => h1 Q fun v F2 H2 e2 ⟨a, vs, e, hh, al, hz⟩ => q v _ H2 e2 ⟨a, vs, e, e2.fh _ _ hh, al, hz⟩
end
/-! ### names and constants -/
theorem e_var {r : Rl α} [Mono r] {i : Nat} {v : V} {x : α} (hr : r F v x) (h : σ[i]? = some (some v)) : EvC w (tVar i σ) (fz r) (.ok x) F H := fun F1 H1 e Q q => ⟨v, h, q v F1 H1 (Xt.refl e.fh) (Mono.mono (r := r) e.ff hr)⟩
theorem e_own {r : Rl α} [Mono r] {i : Nat} {a : Addr} {vs : List V} {xs : List α} {H0 : Hp} (o : Own H0 F H a (.lst vs)) (al : Al r F vs xs) (hz : xs.length ≤ sizeLine) (h : σ[i]? = some (some (.ref a))) : EvC w (tVar i σ) (lb r) (.ok xs) F H := fun F1 H1 e Q q =>
  ⟨_, h, q _ F1 H1 (Xt.refl e.fh) ⟨a, vs, rfl, e.hh _ _ o.at_, al.mono e.ff, hz⟩⟩
theorem e_bor {R : R3 α} [Up R] {i : Nat} {v : V} {x : α} (hr : ∀ H0, R H0 F H v x) (h : σ[i]? = some (some v)) : EvC w (tVar i σ) R (.ok x) F H := fun F1 H1 e Q q =>
  ⟨_, h, q _ F1 H1 (Xt.refl e.fh) (Up.up e (hr _))⟩
section
variable {κ : Type} [DecidableEq κ] {enc : κ → Key} {encT : κ → List Key} {r : Rl α} [Mono r]
theorem e_ownD {i : Nat} {a : Addr} {vs : List (Key × V)} {xs : List (κ × α)} {H0 : Hp} (o : Own H0 F H a (.dK vs)) (al : AD enc r F vs xs) (hz : xs.length ≤ sizeLine) (h : σ[i]? = some (some (.ref a))) : EvC w (tVar i σ) (db enc r) (.ok xs) F H := fun F1 H1 e Q q =>
  ⟨_, h, q _ F1 H1 (Xt.refl e.fh) ⟨a, vs, rfl, e.hh _ _ o.at_, al.mono e.ff, hz⟩⟩
theorem e_ownT {i : Nat} {a : Addr} {vs : List (List Key × V)} {xs : List (κ × α)} {H0 : Hp} (o : Own H0 F H a (.dT vs)) (al : AD encT r F vs xs) (hz : xs.length ≤ sizeLine) (h : σ[i]? = some (some (.ref a))) : EvC w (tVar i σ) (dbT encT r) (.ok xs) F H := fun F1 H1 e Q q =>
  ⟨_, h, q _ F1 H1 (Xt.refl e.fh) ⟨a, vs, rfl, e.hh _ _ o.at_, al.mono e.ff, hz⟩⟩
end
theorem e_c {r : Rl α} {v : V} {x : α} (hr : ∀ F, r F v x) : EvC w (tC v σ) (fz r) (.ok x) F H := fun F1 H1 e Q q => q v F1 H1 (Xt.refl e.fh) (hr _)
theorem e_str {z : Str} {x : List Nat} (h : z = S x) (hl : decide (x.length ≤ 1000) = true) : EvC w (tC (.str z) σ) (fz qS) (.ok x) F H := e_c fun F => ⟨by rw [h], by have := of_decide_eq_true hl; rw [sl64]; omega⟩
theorem e_chr {z : Str} {x : Nat} (h : z = S [x]) : EvC w (tC (.str z) σ) (fz rC) (.ok x) F H := e_c fun F => by rw [h]; rfl
/-! ### operators -/
section
variable {ta tb tc : TE} {m : M α} {n : M β}
theorem e_op {R1 : R3 α} {R2' : R3 β} {R' : R3 γ} [Up R1] [Fl R1] [Fl R2'] [Dn R'] {r : R2} {f : α → β → M γ} (ha : EvC w (ta σ) R1 m F H) (hb : EvC w (tb σ) R2' n F H) (hf : ∀ x y, (∃ z, f x y = .ok z) ∨ f x y = .bad)
    (op : ∀ {x : α} {y : β} {z : γ} {v u : V} {F2 H2 : Hp}, f x y = .ok z → R1 H2 F2 H2 v x → R2' H2 F2 H2 u y → Same F2 H2 → ∀ Q : V → Hp → Prop, (∀ u F3 H3, Xt F2 H2 F3 H3 → R' H2 F3 H3 u z → Q u H3) → r v u H2 Q) : EvC w (tOp r ta tb σ) R' (m.bd fun x => n.bd fun y => f x y) F H := by
  refine EvC.bind (D := fun v H Q => tb σ H fun y H2 => r v y H2 Q) ha fun x v F1 H1 F2 H2 e1 e2 hr => ?_
  refine EvC.last (D := fun u H Q => r v u H Q) (hb.up (e1.trans e2)) (hf x) (fun y z u F3 H3 F4 H4 hz e3 e4 hs Q q => ?_) F2 H2 (Xt.refl e2.fh)
  exact op hz (Fl.fl (Up.up (e3.trans e4) hr)) (Fl.fl hs) e4.fh Q q
theorem e_add {m n : M Int} (ha : EvC w (ta σ) (fz rI) m F H) (hb : EvC w (tb σ) (fz rI) n F H) : EvC w (tOp (rI0 fun i j => .int (i + j)) ta tb σ) (fz rI) (m.bd fun x => n.bd fun y => .ok (x + y)) F H :=
  e_op ha hb (fun _ _ => .inl ⟨_, rfl⟩) fun hz h1 h2 s Q q => by cases hz; exact ⟨_, _, h1, h2, q _ _ _ (Xt.refl s) rfl⟩
theorem e_sub {m n : M Int} (ha : EvC w (ta σ) (fz rI) m F H) (hb : EvC w (tb σ) (fz rI) n F H) : EvC w (tOp (rI0 fun i j => .int (i - j)) ta tb σ) (fz rI) (m.bd fun x => n.bd fun y => .ok (x - y)) F H :=
  e_op ha hb (fun _ _ => .inl ⟨_, rfl⟩) fun hz h1 h2 s Q q => by cases hz; exact ⟨_, _, h1, h2, q _ _ _ (Xt.refl s) rfl⟩
theorem e_addU {m n : M Nat} (ha : EvC w (ta σ) (fz rNat) m F H) (hb : EvC w (tb σ) (fz rNat) n F H) : EvC w (tOp (rI0 fun i j => .int (i + j)) ta tb σ) (fz rNat) (m.bd fun x => n.bd fun y => .ok (x + y)) F H :=
  e_op ha hb (fun _ _ => .inl ⟨_, rfl⟩) fun hz h1 h2 s Q q => by cases hz; exact ⟨_, _, h1, h2, q _ _ _ (Xt.refl s) rfl⟩
theorem e_subU {m n : M Nat} (ha : EvC w (ta σ) (fz rNat) m F H) (hb : EvC w (tb σ) (fz rNat) n F H) : EvC w (tOp (rI0 fun i j => .int (i - j)) ta tb σ) (fz rNat) (m.bd fun x => n.bd fun y => M.gd (y ≤ x) (.ok (x - y))) F H :=
  e_op ha hb (fun _ _ => gd_or) fun hz h1 h2 s Q q => by
    obtain ⟨hle, rfl⟩ := gd_ok hz
    exact ⟨_, _, h1, h2, q _ _ _ (Xt.refl s) (by show V.int _ = V.int _; congr 1; omega)⟩
/-- a factor within 2 ^ 64 -/
def mulOk (x y : Int) : Prop := (-(2 ^ 64) < x ∧ x < 2 ^ 64) ∨ (-(2 ^ 64) < y ∧ y < 2 ^ 64)
instance (x y : Int) : Decidable (mulOk x y) := by unfold mulOk; infer_instance
theorem e_mul {m n : M Int} (ha : EvC w (ta σ) (fz rI) m F H) (hb : EvC w (tb σ) (fz rI) n F H) : EvC w (tOp (L2.rI CMul fun i j => .int (i * j)) ta tb σ) (fz rI) (m.bd fun x => n.bd fun y => M.gd (mulOk x y) (.ok (x * y))) F H :=
  e_op ha hb (fun _ _ => gd_or) fun hz h1 h2 s Q q => by
    obtain ⟨hle, rfl⟩ := gd_ok hz
    exact ⟨_, _, h1, h2, hle, q _ _ _ (Xt.refl s) rfl⟩
theorem e_mulU {m n : M Nat} (ha : EvC w (ta σ) (fz rNat) m F H) (hb : EvC w (tb σ) (fz rNat) n F H) : EvC w (tOp (L2.rI CMul fun i j => .int (i * j)) ta tb σ) (fz rNat) (m.bd fun x => n.bd fun y => M.gd (mulOk x y) (.ok (x * y))) F H :=
  e_op ha hb (fun _ _ => gd_or) fun hz h1 h2 s Q q => by
    obtain ⟨hle, rfl⟩ := gd_ok hz
    exact ⟨_, _, h1, h2, hle, q _ _ _ (Xt.refl s) rfl⟩
theorem e_mod {m n : M Int} (ha : EvC w (ta σ) (fz rI) m F H) (hb : EvC w (tb σ) (fz rI) n F H) : EvC w (tOp (L2.rI (fun _ j => 0 < j) fun i j => .int (i % j)) ta tb σ) (fz rI) (m.bd fun x => n.bd fun y => M.gd (0 < y) (.ok (x % y))) F H :=
  e_op ha hb (fun _ _ => gd_or) fun hz h1 h2 s Q q => by
    obtain ⟨hle, rfl⟩ := gd_ok hz
    exact ⟨_, _, h1, h2, hle, q _ _ _ (Xt.refl s) rfl⟩
theorem e_modU {m n : M Nat} (ha : EvC w (ta σ) (fz rNat) m F H) (hb : EvC w (tb σ) (fz rNat) n F H) : EvC w (tOp (L2.rI (fun _ j => 0 < j) fun i j => .int (i % j)) ta tb σ) (fz rNat) (m.bd fun x => n.bd fun y => M.gd (0 < y) (.ok (x % y))) F H :=
  e_op ha hb (fun _ _ => gd_or) fun hz h1 h2 s Q q => by
    obtain ⟨hle, rfl⟩ := gd_ok hz
    exact ⟨_, _, h1, h2, by omega, q _ _ _ (Xt.refl s) rfl⟩
/-- an int by a positive number: the rest is a natural number -/
theorem e_modI {m : M Int} {n : M Nat} (ha : EvC w (ta σ) (fz rI) m F H) (hb : EvC w (tb σ) (fz rNat) n F H) : EvC w (tOp (L2.rI (fun _ j => 0 < j) fun i j => .int (i % j)) ta tb σ) (fz rNat) (m.bd fun x => n.bd fun y => M.gd (0 < y) (.ok (x % (y : Int)).toNat)) F H :=
  e_op ha hb (fun _ _ => gd_or) fun {x y z v u F2 H2} hz h1 h2 s Q q => by
    obtain ⟨hle, rfl⟩ := gd_ok hz
    exact ⟨_, _, h1, h2, by omega, q _ _ _ (Xt.refl s) (by show V.int _ = V.int _; congr 1; have := Int.emod_nonneg x (b := (y : Int)) (by omega); omega)⟩
theorem e_fdiv {m n : M Int} (ha : EvC w (ta σ) (fz rI) m F H) (hb : EvC w (tb σ) (fz rI) n F H) : EvC w (tOp (L2.rI CDiv fun i j => .int (i / j)) ta tb σ) (fz rI) (m.bd fun x => n.bd fun y => M.gd (0 < y ∧ y < 1073741824) (.ok (x / y))) F H :=
  e_op ha hb (fun _ _ => gd_or) fun hz h1 h2 s Q q => by
    obtain ⟨hle, rfl⟩ := gd_ok hz
    exact ⟨_, _, h1, h2, hle, q _ _ _ (Xt.refl s) rfl⟩
theorem e_fdivU {m n : M Nat} (ha : EvC w (ta σ) (fz rNat) m F H) (hb : EvC w (tb σ) (fz rNat) n F H) : EvC w (tOp (L2.rI CDiv fun i j => .int (i / j)) ta tb σ) (fz rNat) (m.bd fun x => n.bd fun y => M.gd (0 < y ∧ y < 1073741824) (.ok (x / y))) F H :=
  e_op ha hb (fun _ _ => gd_or) fun hz h1 h2 s Q q => by
    obtain ⟨hle, rfl⟩ := gd_ok hz
    exact ⟨_, _, h1, h2, ⟨by omega, by omega⟩, q _ _ _ (Xt.refl s) rfl⟩
theorem e_neg {m : M Int} (ha : EvC w (ta σ) (fz rI) m F H) : EvC w (tUn (rU fun i => .int (-i)) ta σ) (fz rI) (m.bd fun x => .ok (-x)) F H :=
  EvC.last (D := fun v H Q => rU (fun i => .int (-i)) v H Q) ha (fun _ => .inl ⟨_, rfl⟩) fun x y v F1 H1 F2 H2 hz e1 e2 hr Q q => by cases hz; exact ⟨_, hr, q _ _ _ (Xt.refl e2.fh) rfl⟩
/-- what is put together, if it is not too long -/
def _root_.SF.M.cat {α : Type} (a b : List α) : M (List α) := M.gd (a.length + b.length ≤ sizeLine) (.ok (a ++ b))
theorem e_catS {m n : M (List Nat)} (ha : EvC w (ta σ) (fz qS) m F H) (hb : EvC w (tb σ) (fz qS) n F H) :
    EvC w (tOp (fun x y H Q => ∃ i j, x = .str i ∧ y = .str j ∧ i.length + j.length ≤ sizeLine ∧ Q (.str (i ++ j)) H) ta tb σ) (fz qS) (m.bd fun x => n.bd fun y => M.cat x y) F H :=
  e_op ha hb (fun _ _ => gd_or) fun hz h1 h2 s Q q => by
    obtain ⟨hle, rfl⟩ := gd_ok hz
    obtain ⟨rfl, _⟩ := h1
    obtain ⟨rfl, _⟩ := h2
    exact ⟨_, _, rfl, rfl, by rw [S_len, S_len]; exact hle, q _ _ _ (Xt.refl s) ⟨by rw [S_app], by rw [List.length_append]; exact hle⟩⟩
/-- a new list -/
theorem nw_new {r : Rl α} [Mono r] {F H : Hp} {p : Addr} {vs : List V} {xs : List α} (s : Same F H) (hp : H p = none) (al : Al r F vs xs) (hz : xs.length ≤ sizeLine) : Xt F H F (upd H p (.lst vs)) ∧ nw r H F (upd H p (.lst vs)) (.ref p) xs :=
  ⟨(Xt.refl s).newM hp, p, vs, rfl, hp, s.free hp, upd_same, al, hz⟩
theorem e_catL {r : Rl α} [Mono r] {m n : M (List α)} (ha : EvC w (ta σ) (lb r) m F H) (hb : EvC w (tb σ) (lb r) n F H) : EvC w (tOp rCat ta tb σ) (nw r) (m.bd fun x => n.bd fun y => M.cat x y) F H :=
  e_op ha hb (fun _ _ => gd_or) fun hz h1 h2 s Q q => by
    obtain ⟨hle, rfl⟩ := gd_ok hz
    obtain ⟨a, vs, rfl, e1, al1, _⟩ := h1
    obtain ⟨b, us, rfl, e2, al2, _⟩ := h2
    refine ⟨a, b, vs, us, rfl, rfl, e1, e2, by rw [al1.len, al2.len]; exact hle, fun p hp => ?_⟩
    obtain ⟨x1, x2⟩ := nw_new s hp (al1.app al2) (by rw [List.length_append]; exact hle)
    exact q _ _ _ x1 x2
/-! comparisons of numbers -/
section
variable {m n : M Int}
theorem e_lt (ha : EvC w (ta σ) (fz rI) m F H) (hb : EvC w (tb σ) (fz rI) n F H) : EvC w (tOp (rI0 fun i j => .bl (decide (i < j))) ta tb σ) (fz rB) (m.bd fun x => n.bd fun y => .ok (decide (x < y))) F H :=
  e_op ha hb (fun _ _ => .inl ⟨_, rfl⟩) fun hz h1 h2 s Q q => by cases hz; exact ⟨_, _, h1, h2, q _ _ _ (Xt.refl s) rfl⟩
theorem e_le (ha : EvC w (ta σ) (fz rI) m F H) (hb : EvC w (tb σ) (fz rI) n F H) : EvC w (tOp (rI0 fun i j => .bl (decide (i ≤ j))) ta tb σ) (fz rB) (m.bd fun x => n.bd fun y => .ok (decide (x ≤ y))) F H :=
  e_op ha hb (fun _ _ => .inl ⟨_, rfl⟩) fun hz h1 h2 s Q q => by cases hz; exact ⟨_, _, h1, h2, q _ _ _ (Xt.refl s) rfl⟩
theorem e_gt (ha : EvC w (ta σ) (fz rI) m F H) (hb : EvC w (tb σ) (fz rI) n F H) : EvC w (tOp (rI0 fun i j => .bl (decide (j < i))) ta tb σ) (fz rB) (m.bd fun x => n.bd fun y => .ok (decide (y < x))) F H :=
  e_op ha hb (fun _ _ => .inl ⟨_, rfl⟩) fun hz h1 h2 s Q q => by cases hz; exact ⟨_, _, h1, h2, q _ _ _ (Xt.refl s) rfl⟩
theorem e_ge (ha : EvC w (ta σ) (fz rI) m F H) (hb : EvC w (tb σ) (fz rI) n F H) : EvC w (tOp (rI0 fun i j => .bl (decide (j ≤ i))) ta tb σ) (fz rB) (m.bd fun x => n.bd fun y => .ok (decide (y ≤ x))) F H :=
  e_op ha hb (fun _ _ => .inl ⟨_, rfl⟩) fun hz h1 h2 s Q q => by cases hz; exact ⟨_, _, h1, h2, q _ _ _ (Xt.refl s) rfl⟩
end
section
variable {m n : M Nat}
theorem dec_lt (x y : Nat) : decide ((x : Int) < (y : Int)) = decide (x < y) := by simp
theorem dec_le (x y : Nat) : decide ((x : Int) ≤ (y : Int)) = decide (x ≤ y) := by simp
theorem e_ltU (ha : EvC w (ta σ) (fz rNat) m F H) (hb : EvC w (tb σ) (fz rNat) n F H) : EvC w (tOp (rI0 fun i j => .bl (decide (i < j))) ta tb σ) (fz rB) (m.bd fun x => n.bd fun y => .ok (decide (x < y))) F H :=
  e_op ha hb (fun _ _ => .inl ⟨_, rfl⟩) fun hz h1 h2 s Q q => by cases hz; exact ⟨_, _, h1, h2, q _ _ _ (Xt.refl s) (congrArg V.bl (dec_lt _ _))⟩
theorem e_leU (ha : EvC w (ta σ) (fz rNat) m F H) (hb : EvC w (tb σ) (fz rNat) n F H) : EvC w (tOp (rI0 fun i j => .bl (decide (i ≤ j))) ta tb σ) (fz rB) (m.bd fun x => n.bd fun y => .ok (decide (x ≤ y))) F H :=
  e_op ha hb (fun _ _ => .inl ⟨_, rfl⟩) fun hz h1 h2 s Q q => by cases hz; exact ⟨_, _, h1, h2, q _ _ _ (Xt.refl s) (congrArg V.bl (dec_le _ _))⟩
theorem e_gtU (ha : EvC w (ta σ) (fz rNat) m F H) (hb : EvC w (tb σ) (fz rNat) n F H) : EvC w (tOp (rI0 fun i j => .bl (decide (j < i))) ta tb σ) (fz rB) (m.bd fun x => n.bd fun y => .ok (decide (y < x))) F H :=
  e_op ha hb (fun _ _ => .inl ⟨_, rfl⟩) fun hz h1 h2 s Q q => by cases hz; exact ⟨_, _, h1, h2, q _ _ _ (Xt.refl s) (congrArg V.bl (dec_lt _ _))⟩
theorem e_geU (ha : EvC w (ta σ) (fz rNat) m F H) (hb : EvC w (tb σ) (fz rNat) n F H) : EvC w (tOp (rI0 fun i j => .bl (decide (j ≤ i))) ta tb σ) (fz rB) (m.bd fun x => n.bd fun y => .ok (decide (y ≤ x))) F H :=
  e_op ha hb (fun _ _ => .inl ⟨_, rfl⟩) fun hz h1 h2 s Q q => by cases hz; exact ⟨_, _, h1, h2, q _ _ _ (Xt.refl s) (congrArg V.bl (dec_le _ _))⟩
end
/-! == of plain data -/
/-- values of data that == decides by value -/
class Scl {α : Type} [DecidableEq α] (r : Rl α) : Prop where
  scl : ∀ {F v u} {x y : α}, r F v x → r F u y → scal v u = true ∧ (v = u ↔ x = y)
instance : Scl rI := ⟨fun h1 h2 => by cases h1; cases h2; exact ⟨rfl, by simp⟩⟩
instance : Scl rNat := ⟨fun h1 h2 => by cases h1; cases h2; exact ⟨rfl, fun h => by injection h with h; omega, fun h => by rw [h]⟩⟩
instance : Scl rB := ⟨fun h1 h2 => by cases h1; cases h2; exact ⟨rfl, by simp⟩⟩
instance : Scl qS := ⟨fun h1 h2 => by obtain ⟨rfl, _⟩ := h1; obtain ⟨rfl, _⟩ := h2; exact ⟨rfl, by simp only [V.str.injEq, S_inj]⟩⟩
instance : Scl rC := ⟨fun h1 h2 => by cases h1; cases h2; exact ⟨rfl, by simp only [V.str.injEq, S_inj, List.cons.injEq, and_true]⟩⟩
theorem e_eq [DecidableEq α] {r : Rl α} [Mono r] [Scl r] {m n : M α} (ha : EvC w (ta σ) (fz r) m F H) (hb : EvC w (tb σ) (fz r) n F H) : EvC w (tOp rEq ta tb σ) (fz rB) (m.bd fun x => n.bd fun y => .ok (decide (x = y))) F H :=
  e_op ha hb (fun _ _ => .inl ⟨_, rfl⟩) fun hz h1 h2 s Q q => by
    cases hz
    obtain ⟨q1, q2⟩ := Scl.scl (r := r) h1 h2
    exact ⟨q1, q _ _ _ (Xt.refl s) (by rw [decide_eq_decide.mpr q2]; rfl)⟩
theorem e_ne [DecidableEq α] {r : Rl α} [Mono r] [Scl r] {m n : M α} (ha : EvC w (ta σ) (fz r) m F H) (hb : EvC w (tb σ) (fz r) n F H) : EvC w (tOp rNe ta tb σ) (fz rB) (m.bd fun x => n.bd fun y => .ok (!decide (x = y))) F H :=
  e_op ha hb (fun _ _ => .inl ⟨_, rfl⟩) fun hz h1 h2 s Q q => by
    cases hz
    obtain ⟨q1, q2⟩ := Scl.scl (r := r) h1 h2
    exact ⟨q1, q _ _ _ (Xt.refl s) (by rw [decide_eq_decide.mpr q2]; rfl)⟩
end
end
end SF
namespace SF
open PySem PySem.Spec PyProof.Rows L2
section
variable {w : Xw} {σ : L2.St} {F H : Hp} {K : PySem.W.Frag} {α β γ δ : Type} {ta tb tc : TE}
/-! ### truth -/
theorem EvC.eq {ω : Type} {C D : Hp → (ω → Hp → Prop) → Prop} {R : Hp → Hp → Hp → ω → α → Prop} {m n : M α} (h : EvC w C R m F H) (e : m = n) : EvC w C R n F H := e ▸ h
theorem e_not {m : M Bool} (ha : EvC w (ta σ) (fz rB) m F H) : EvC w (tNotV ta σ) (fz rB) (m.bd fun x => .ok (!x)) F H :=
  EvC.last (D := fun (v : V) H (Q : VK) => ∃ c, v = .bl c ∧ Q (.bl (!c)) H) (R' := fz rB) ha (fun _ => .inl ⟨_, rfl⟩) fun x y v F1 H1 F2 H2 hz e1 e2 hr Q q => by cases hz; exact ⟨_, hr, q _ _ _ (Xt.refl e2.fh) rfl⟩
theorem e_and {m n : M Bool} (ha : EvC w (ta σ) (fz rB) m F H) (hb : EvC w (tb σ) (fz rB) n F H) : EvC w (tAndV ta tb σ) (fz rB) (M.ite m n (.ok false)) F H :=
  EvC.bind (D := fun (v : V) H (Q : VK) => ∃ c, v = .bl c ∧ if c = true then tb σ H Q else Q (.bl false) H) (R' := fz rB) (f := fun c => if c = true then n else .ok false) ha fun x v F1 H1 F2 H2 e1 e2 hr => by
    have h1 := hb F2 H2 (e1.trans e2)
    have hr : v = .bl x := hr
    subst hr
    cases x with
    | false => exact fun Q q => ⟨_, rfl, iteF (q _ _ _ (Xt.refl e2.fh) rfl)⟩
    | true =>
      show EvN w _ _ n F2 H2
      cases n with
      | bad => trivial
      | exc e => exact fun o Q => ⟨_, rfl, iteT (h1 o Q)⟩
      | ok y => exact fun Q q => ⟨_, rfl, iteT (h1 Q q)⟩
theorem e_or {m n : M Bool} (ha : EvC w (ta σ) (fz rB) m F H) (hb : EvC w (tb σ) (fz rB) n F H) : EvC w (tOrV ta tb σ) (fz rB) (M.ite m (.ok true) n) F H :=
  EvC.bind (D := fun (v : V) H (Q : VK) => ∃ c, v = .bl c ∧ if c = true then Q (.bl true) H else tb σ H Q) (R' := fz rB) (f := fun c => if c = true then .ok true else n) ha fun x v F1 H1 F2 H2 e1 e2 hr => by
    have h1 := hb F2 H2 (e1.trans e2)
    have hr : v = .bl x := hr
    subst hr
    cases x with
    | true => exact fun Q q => ⟨_, rfl, iteT (q _ _ _ (Xt.refl e2.fh) rfl)⟩
    | false =>
      show EvN w _ _ n F2 H2
      cases n with
      | bad => trivial
      | exc e => exact fun o Q => ⟨_, rfl, iteF (h1 o Q)⟩
      | ok y => exact fun Q q => ⟨_, rfl, iteF (h1 Q q)⟩
theorem e_andP {x y : Bool} (ha : EvC w (ta σ) (fz rB) (.ok x) F H) (hb : EvC w (tb σ) (fz rB) (.ok y) F H) : EvC w (tAndV ta tb σ) (fz rB) (.ok (x && y)) F H := by
  have h := e_and ha hb
  have e : M.ite (.ok x) (.ok y) (.ok false) = .ok (x && y) := by cases x <;> rfl
  rw [e] at h; exact h
theorem e_orP {x y : Bool} (ha : EvC w (ta σ) (fz rB) (.ok x) F H) (hb : EvC w (tb σ) (fz rB) (.ok y) F H) : EvC w (tOrV ta tb σ) (fz rB) (.ok (x || y)) F H := by
  have h := e_or ha hb
  have e : M.ite (.ok x) (.ok true) (.ok y) = .ok (x || y) := by cases x <;> rfl
  rw [e] at h; exact h
theorem t_val {m : M Bool} (ha : EvC w (ta σ) (fz rB) m F H) : EvC w (tB ta σ) teq m F H := by
  intro F1 H1 e1
  have h1 := ha F1 H1 e1
  cases m with
  | bad => trivial
  | exc e => exact fun o Q => h1 o _
  | ok x => exact fun Q q => h1 _ fun v F2 H2 e2 hr => ⟨x, hr, q _ _ _ e2 rfl⟩
theorem t_test {m : M Bool} (ha : EvC w (ta σ) (fz rB) m F H) : EvC w (tTest ta σ) teq m F H := t_val ha
section
variable {tA tB' : TT}
theorem t_not {m : M Bool} (ha : EvC w (tA σ) teq m F H) : EvC w (tNot tA σ) teq (m.bd fun x => .ok (!x)) F H :=
  EvC.last (D := fun (c : Bool) H (Q : Bool → Hp → Prop) => Q (!c) H) (R' := teq) ha (fun _ => .inl ⟨_, rfl⟩) fun x y v F1 H1 F2 H2 hz e1 e2 hr Q q => by cases hz; exact q _ _ _ (Xt.refl e2.fh) (congrArg not hr)
theorem t_and {m n : M Bool} (ha : EvC w (tA σ) teq m F H) (hb : EvC w (tB' σ) teq n F H) : EvC w (tAnd tA tB' σ) teq (M.ite m n (.ok false)) F H :=
  EvC.bind (D := fun (c : Bool) H (Q : Bool → Hp → Prop) => if c = true then tB' σ H Q else Q false H) (R' := teq) (f := fun c => if c = true then n else .ok false) ha fun x v F1 H1 F2 H2 e1 e2 hr => by
    have h1 := hb F2 H2 (e1.trans e2)
    have hr : v = x := hr
    subst hr
    cases v with
    | false => exact fun Q q => iteF (q _ _ _ (Xt.refl e2.fh) rfl)
    | true =>
      show EvN w _ _ n F2 H2
      cases n with
      | bad => trivial
      | exc e => exact fun o Q => iteT (h1 o Q)
      | ok y => exact fun Q q => iteT (h1 Q q)
theorem t_or {m n : M Bool} (ha : EvC w (tA σ) teq m F H) (hb : EvC w (tB' σ) teq n F H) : EvC w (tOr tA tB' σ) teq (M.ite m (.ok true) n) F H :=
  EvC.bind (D := fun (c : Bool) H (Q : Bool → Hp → Prop) => if c = true then Q true H else tB' σ H Q) (R' := teq) (f := fun c => if c = true then .ok true else n) ha fun x v F1 H1 F2 H2 e1 e2 hr => by
    have h1 := hb F2 H2 (e1.trans e2)
    have hr : v = x := hr
    subst hr
    cases v with
    | true => exact fun Q q => iteT (q _ _ _ (Xt.refl e2.fh) rfl)
    | false =>
      show EvN w _ _ n F2 H2
      cases n with
      | bad => trivial
      | exc e => exact fun o Q => iteF (h1 o Q)
      | ok y => exact fun Q q => iteF (h1 Q q)
theorem t_andP {x y : Bool} (ha : EvC w (tA σ) teq (.ok x) F H) (hb : EvC w (tB' σ) teq (.ok y) F H) : EvC w (tAnd tA tB' σ) teq (.ok (x && y)) F H := by
  have h := t_and ha hb
  have e : M.ite (.ok x) (.ok y) (.ok false) = .ok (x && y) := by cases x <;> rfl
  rw [e] at h; exact h
theorem t_orP {x y : Bool} (ha : EvC w (tA σ) teq (.ok x) F H) (hb : EvC w (tB' σ) teq (.ok y) F H) : EvC w (tOr tA tB' σ) teq (.ok (x || y)) F H := by
  have h := t_or ha hb
  have e : M.ite (.ok x) (.ok true) (.ok y) = .ok (x || y) := by cases x <;> rfl
  rw [e] at h; exact h
theorem e_if {R : R3 α} [Dn R] {c : M Bool} {m n : M α} (hc : EvC w (tA σ) teq c F H) (ha : EvC w (ta σ) R m F H) (hb : EvC w (tb σ) R n F H) : EvC w (tIf tA ta tb σ) R (M.ite c m n) F H :=
  EvC.bind (D := fun (c : Bool) H (Q : VK) => if c = true then ta σ H Q else tb σ H Q) (R' := R) (f := fun c => if c = true then m else n) hc fun x v F1 H1 F2 H2 e1 e2 hr => by
    have h1 := ha F2 H2 (e1.trans e2)
    have h2 := hb F2 H2 (e1.trans e2)
    have hr : v = x := hr
    subst hr
    cases v with
    | true =>
      show EvN w _ _ m F2 H2
      cases m with
      | bad => trivial
      | exc e => exact fun o Q => iteT (h1 o Q)
      | ok y => exact fun Q q => iteT (h1 Q q)
    | false =>
      show EvN w _ _ n F2 H2
      cases n with
      | bad => trivial
      | exc e => exact fun o Q => iteF (h2 o Q)
      | ok y => exact fun Q q => iteF (h2 Q q)
theorem e_ifP {R : R3 α} [Dn R] {c : Bool} {x y : α} (hc : EvC w (tA σ) teq (.ok c) F H) (ha : EvC w (ta σ) R (.ok x) F H) (hb : EvC w (tb σ) R (.ok y) F H) : EvC w (tIf tA ta tb σ) R (.ok (if c = true then x else y)) F H := by
  have h := e_if hc ha hb
  have e : M.ite (.ok c) (.ok x) (.ok y) = .ok (if c = true then x else y) := by cases c <;> rfl
  rw [e] at h; exact h
end
/-- x is None -/
theorem e_isN {r : Rl α} (hn : ∀ F v x, r F v x → v ≠ .non) {m : M (Option α)} {v0 : V} (hv : v0 = .non) (ha : EvC w (ta σ) (fz (rO r)) m F H) : EvC w (tOp (fun x y H Q => y = V.non ∧ Q (.bl (decide (x = V.non))) H) ta (tC v0) σ) (fz rB) (m.bd fun x => .ok x.isNone) F H :=
  EvC.last (D := fun (v : V) H (Q : VK) => tC v0 σ H fun y H2 => y = V.non ∧ Q (.bl (decide (v = V.non))) H2) (R' := fz rB) ha (fun _ => .inl ⟨_, rfl⟩) fun x y v F1 H1 F2 H2 hz e1 e2 hr Q q => by
    cases hz
    refine ⟨hv, q _ _ _ (Xt.refl e2.fh) ?_⟩
    show V.bl _ = V.bl _
    cases x with
    | none => rw [show v = .non from hr]; rfl
    | some y => rw [decide_eq_false (hn _ _ _ hr)]; rfl
theorem e_notN {r : Rl α} (hn : ∀ F v x, r F v x → v ≠ .non) {m : M (Option α)} {v0 : V} (hv : v0 = .non) (ha : EvC w (ta σ) (fz (rO r)) m F H) : EvC w (tOp (fun x y H Q => y = V.non ∧ Q (.bl (!decide (x = V.non))) H) ta (tC v0) σ) (fz rB) (m.bd fun x => .ok x.isSome) F H :=
  EvC.last (D := fun (v : V) H (Q : VK) => tC v0 σ H fun y H2 => y = V.non ∧ Q (.bl (!decide (v = V.non))) H2) (R' := fz rB) ha (fun _ => .inl ⟨_, rfl⟩) fun x y v F1 H1 F2 H2 hz e1 e2 hr Q q => by
    cases hz
    refine ⟨hv, q _ _ _ (Xt.refl e2.fh) ?_⟩
    show V.bl _ = V.bl _
    cases x with
    | none => rw [show v = .non from hr]; rfl
    | some y => rw [decide_eq_false (hn _ _ _ hr)]; rfl
/-! ### displays -/
def EvA {τ : Type} (w : Xw) (ta : TA) (σ : L2.St) (Rs : Hp → Hp → Hp → List V → τ → Prop) (T : ∀ {γ : Type}, (τ → M γ) → M γ) (F H : Hp) : Prop :=
  ∀ F0 H0, Xt F H F0 H0 → ∀ {ω γ : Type} (D : List V → Hp → (ω → Hp → Prop) → Prop) (R' : Hp → Hp → Hp → ω → γ → Prop) [Dn R'] (f : τ → M γ),
    (∀ xs vs F2 H2, Xt F0 H0 F2 H2 → Rs H2 F2 H2 vs xs → EvN w (D vs) R' (f xs) F2 H2) → EvN w (fun H Q => ta σ H fun vs H' => D vs H' Q) R' (T f) F0 H0
def ran : Hp → Hp → Hp → List V → Unit → Prop := fun _ _ _ vs _ => vs = []
def rac {τ : Type} (R : R3 α) (Rs : Hp → Hp → Hp → List V → τ → Prop) : Hp → Hp → Hp → List V → α × τ → Prop := fun H0 F H vs x => ∃ v us, vs = v :: us ∧ R H0 F H v x.1 ∧ Rs H0 F H us x.2
theorem a_nil : EvA w tNil σ ran (fun f => f ()) F H := fun F0 H0 e0 ω γ D R' _ f k => k () [] F0 H0 (Xt.refl e0.fh) rfl
theorem a_cons {τ : Type} {t : TE} {ts : TA} {R : R3 α} [Up R] [Fl R] {Rs : Hp → Hp → Hp → List V → τ → Prop} {m : M α} {T : ∀ {γ : Type}, (τ → M γ) → M γ} (ha : EvC w (t σ) R m F H) (hs : EvA w ts σ Rs T F H) :
    EvA w (tCons t ts) σ (rac R Rs) (fun f => m.bd fun x => T fun xs => f (x, xs)) F H := fun F0 H0 e0 ω γ D R' _ f k => by
  refine EvN.bind (D := fun v H Q => ts σ H fun vs H' => D (v :: vs) H' Q) (ha F0 H0 e0) fun x v F2 H2 e2 hr => ?_
  exact hs F2 H2 (e0.trans e2) (fun vs => D (v :: vs)) R' _ fun xs vs F3 H3 e3 hrs => k (x, xs) (v :: vs) F3 H3 (e2.trans e3) ⟨v, vs, rfl, Fl.fl (Up.up e3 hr), hrs⟩
/-- a list of like items -/
def ral (r : Rl α) : Hp → Hp → Hp → List V → List α → Prop := fun _ F _ vs xs => Al r F vs xs
theorem al_nil {r : Rl α} : EvA w tNil σ (ral r) (fun f => f []) F H := fun F0 H0 e0 ω γ D R' _ f k => k [] [] F0 H0 (Xt.refl e0.fh) .nil
theorem al_cons {r : Rl α} [Mono r] {t : TE} {ts : TA} {m : M α} {T : ∀ {γ : Type}, (List α → M γ) → M γ} (ha : EvC w (t σ) (fz r) m F H) (hs : EvA w ts σ (ral r) T F H) :
    EvA w (tCons t ts) σ (ral r) (fun f => m.bd fun x => T fun xs => f (x :: xs)) F H := fun F0 H0 e0 ω γ D R' _ f k => by
  refine EvN.bind (D := fun v H Q => ts σ H fun vs H' => D (v :: vs) H' Q) (ha F0 H0 e0) fun x v F2 H2 e2 hr => ?_
  exact hs F2 H2 (e0.trans e2) (fun vs => D (v :: vs)) R' _ fun xs vs F3 H3 e3 hrs => k (x :: xs) (v :: vs) F3 H3 (e2.trans e3) (.cons (Mono.mono (r := r) e3.ff hr) hrs)
/-- [a, b, ..]: a new list -/
theorem e_lst {r : Rl α} [Mono r] {ts : TA} {T : ∀ {γ : Type}, (List α → M γ) → M γ} (hs : EvA w ts σ (ral r) T F H) : EvC w (tLst ts σ) (nw r) (T fun xs => M.gd (xs.length ≤ sizeLine) (.ok xs)) F H := fun F0 H0 e0 => by
  refine hs F0 H0 e0 (fun vs H Q => vs.length ≤ sizeLine ∧ ∀ p, H p = none → Q (.ref p) (upd H p (.lst vs))) (nw r) _ fun xs vs F2 H2 e2 al => ?_
  by_cases hz : xs.length ≤ sizeLine
  · rw [M.gd_pos hz]
    exact fun Q q => ⟨by rw [Al.len al]; exact hz, fun p hp => let ⟨x1, x2⟩ := nw_new e2.fh hp al hz; q _ _ _ x1 x2⟩
  · rw [M.gd_neg hz]; trivial
theorem e_tup2 {r : Rl α} {s : Rl β} [Mono r] [Mono s] {ts : TA} {T : ∀ {γ : Type}, (α × β × Unit → M γ) → M γ} (hs : EvA w ts σ (rac (fz r) (rac (fz s) ran)) T F H) : EvC w (tTup ts σ) (fz (rP r s)) (T fun x => .ok (x.1, x.2.1)) F H := fun F0 H0 e0 => by
  refine hs F0 H0 e0 (fun vs H Q => vs.length ≤ sizeLine ∧ ∀ p, H p = none → Q (.ref p) (upd H p (.tup vs))) (fz (rP r s)) _ fun x vs F2 H2 e2 hr => ?_
  obtain ⟨v1, _, rfl, h1, v2, _, rfl, h2, rfl⟩ := hr
  refine fun Q q => ⟨by show 2 ≤ _; rw [sl64]; decide, fun p hp => ?_⟩
  have e3 := (Xt.refl e2.fh).newF hp (o := .tup [v1, v2])
  exact q _ _ _ e3 ⟨p, v1, v2, rfl, upd_same, Mono.mono (r := r) e3.ff h1, Mono.mono (r := s) e3.ff h2⟩
theorem e_tup3 {r : Rl α} {s : Rl β} {t : Rl γ} [Mono r] [Mono s] [Mono t] {ts : TA} {T : ∀ {γ' : Type}, (α × β × γ × Unit → M γ') → M γ'} (hs : EvA w ts σ (rac (fz r) (rac (fz s) (rac (fz t) ran))) T F H) : EvC w (tTup ts σ) (fz (qT3 r s t)) (T fun x => .ok (x.1, x.2.1, x.2.2.1)) F H := fun F0 H0 e0 => by
  refine hs F0 H0 e0 (fun vs H Q => vs.length ≤ sizeLine ∧ ∀ p, H p = none → Q (.ref p) (upd H p (.tup vs))) (fz (qT3 r s t)) _ fun x vs F2 H2 e2 hr => ?_
  obtain ⟨v1, _, rfl, h1, v2, _, rfl, h2, v3, _, rfl, h3, rfl⟩ := hr
  refine fun Q q => ⟨by show 3 ≤ _; rw [sl64]; decide, fun p hp => ?_⟩
  have e3 := (Xt.refl e2.fh).newF hp (o := .tup [v1, v2, v3])
  exact q _ _ _ e3 ⟨p, v1, v2, v3, rfl, upd_same, Mono.mono (r := r) e3.ff h1, Mono.mono (r := s) e3.ff h2, Mono.mono (r := t) e3.ff h3⟩
theorem e_tup4 {r : Rl α} {s : Rl β} {t : Rl γ} {u : Rl δ} [Mono r] [Mono s] [Mono t] [Mono u] {ts : TA} {T : ∀ {γ' : Type}, (α × β × γ × δ × Unit → M γ') → M γ'} (hs : EvA w ts σ (rac (fz r) (rac (fz s) (rac (fz t) (rac (fz u) ran)))) T F H) : EvC w (tTup ts σ) (fz (qT4 r s t u)) (T fun x => .ok (x.1, x.2.1, x.2.2.1, x.2.2.2.1)) F H := fun F0 H0 e0 => by
  refine hs F0 H0 e0 (fun vs H Q => vs.length ≤ sizeLine ∧ ∀ p, H p = none → Q (.ref p) (upd H p (.tup vs))) (fz (qT4 r s t u)) _ fun x vs F2 H2 e2 hr => ?_
  obtain ⟨v1, _, rfl, h1, v2, _, rfl, h2, v3, _, rfl, h3, v4, _, rfl, h4, rfl⟩ := hr
  refine fun Q q => ⟨by show 4 ≤ _; rw [sl64]; decide, fun p hp => ?_⟩
  have e3 := (Xt.refl e2.fh).newF hp (o := .tup [v1, v2, v3, v4])
  exact q _ _ _ e3 ⟨p, v1, v2, v3, v4, rfl, upd_same, Mono.mono (r := r) e3.ff h1, Mono.mono (r := s) e3.ff h2, Mono.mono (r := t) e3.ff h3, Mono.mono (r := u) e3.ff h4⟩
/-- any tuple, its items forgotten -/
theorem e_tupX {τ : Type} {Rs : Hp → Hp → Hp → List V → τ → Prop} {ts : TA} {T : ∀ {γ' : Type}, (τ → M γ') → M γ'} (hl : ∀ H0 F H vs x, Rs H0 F H vs x → vs.length ≤ 1000) (hs : EvA w ts σ Rs T F H) : EvC w (tTup ts σ) (fz qX) (T fun x => .ok ()) F H := fun F0 H0 e0 => by
  refine hs F0 H0 e0 (fun vs H Q => vs.length ≤ sizeLine ∧ ∀ p, H p = none → Q (.ref p) (upd H p (.tup vs))) (fz qX) _ fun x vs F2 H2 e2 hr => ?_
  refine fun Q q => ⟨by have := hl _ _ _ _ _ hr; rw [sl64]; omega, fun p hp => ?_⟩
  exact q _ _ _ ((Xt.refl e2.fh).newF hp (o := .tup vs)) trivial
end
end SF
namespace SF
open PySem PySem.Spec PyProof.Rows L2
theorem lc_pure {α β : Type} {p : α → Bool} {f : α → β} : ∀ xs : List α, M.lc (fun x => .ok (p x)) (fun x => .ok (f x)) xs = .ok ((xs.filter p).map f)
  | [] => rfl
  | x :: r => by
    show (if p x = true then (M.lc _ _ r).bd fun ys => .ok (f x :: ys) else M.lc _ _ r) = _
    rw [lc_pure r, List.filter_cons]
    cases p x <;> rfl
theorem lc_map {α β : Type} {f : α → β} (xs : List α) : M.lc (fun _ => .ok true) (fun x => .ok (f x)) xs = .ok (xs.map f) := by
  rw [lc_pure]; congr 2; exact List.filter_eq_self.mpr fun _ _ => rfl
theorem lc_fil {α : Type} {p : α → Bool} (xs : List α) : M.lc (fun x => .ok (p x)) (fun x => .ok x) xs = .ok (xs.filter p) := by
  rw [lc_pure, List.map_id']
theorem atI_nat' {α : Type} {xs : List α} {i : Nat} : atI xs (i : Int) = xs[i]? := by
  unfold atI ixN
  rw [if_pos (by omega)]
  by_cases h : i < xs.length
  · rw [if_pos (by omega), Int.toNat_natCast]; rfl
  · rw [if_neg (by omega)]
    exact (List.getElem?_eq_none_iff.mpr (by omega)).symm
theorem atI_al {α : Type} {r : Rl α} {F : Hp} {vs : List V} {xs : List α} {i : Int} {x : α} (al : Al r F vs xs) (h : atI xs i = some x) : ∃ v, atI vs i = some v ∧ r F v x := by
  unfold atI at h ⊢
  rw [al.len]
  cases e : ixN xs.length i with
  | none => rw [e] at h; cases h
  | some j =>
    rw [e] at h
    exact al.get' h
/-- a part of a list, by python's rule -/
def cutG {α : Type} (l : List α) (lo hi : Option Int) : List α := (l.drop (HT.sIx l.length 0 lo)).take (HT.sIx l.length l.length hi - HT.sIx l.length 0 lo)
theorem cutG_le {α : Type} (l : List α) (lo hi : Option Int) : (cutG l lo hi).length ≤ l.length := by
  unfold cutG
  rw [List.length_take, List.length_drop]
  omega
/-- keys -/
class KR {κ : Type} (r : Rl κ) (enc : κ → Key) : Prop where
  kr : ∀ {F v k}, r F v k → v = kV (enc k)
  inj : ∀ a b, enc a = enc b → a = b
class KT {κ : Type} (r : Rl κ) (enc : κ → List Key) : Prop where
  kt : ∀ {F v k}, r F v k → ∃ b, v = .ref b ∧ F b = some (.tup ((enc k).map kV))
  inj : ∀ a b, enc a = enc b → a = b
def encI (i : Int) : Key := Sum.inl i
def encU (i : Nat) : Key := Sum.inl (i : Int)
def encS' (l : List Nat) : Key := Sum.inr (S l)
instance : KR rI encI := ⟨fun h => h, fun _ _ h => Sum.inl.inj h⟩
instance : KR rNat encU := ⟨fun h => h, fun _ _ h => by have := Sum.inl.inj h; omega⟩
instance : KR rC encN := ⟨fun h => h, encN_inj⟩
instance : KR qS encS' := ⟨fun h => h.1, fun _ _ h => S_inj.mp (Sum.inr.inj h)⟩
def encT2 {α β : Type} (e1 : α → Key) (e2 : β → Key) (x : α × β) : List Key := [e1 x.1, e2 x.2]
def encT3 {α β γ : Type} (e1 : α → Key) (e2 : β → Key) (e3 : γ → Key) (x : α × β × γ) : List Key := [e1 x.1, e2 x.2.1, e3 x.2.2]
instance {α β : Type} {r : Rl α} {s : Rl β} {e1 : α → Key} {e2 : β → Key} [KR r e1] [KR s e2] : KT (rP r s) (encT2 e1 e2) := ⟨fun h => by
  obtain ⟨a, u, w, e, h0, h1, h2⟩ := h
  exact ⟨a, e, by rw [h0, KR.kr (enc := e1) h1, KR.kr (enc := e2) h2]; rfl⟩, fun x y h => by
  injection h with h1 h
  injection h with h2 _
  exact Prod.ext (KR.inj (r := r) _ _ h1) (KR.inj (r := s) _ _ h2)⟩
instance {α β γ : Type} {r : Rl α} {s : Rl β} {t : Rl γ} {e1 : α → Key} {e2 : β → Key} {e3 : γ → Key} [KR r e1] [KR s e2] [KR t e3] : KT (qT3 r s t) (encT3 e1 e2 e3) := ⟨fun h => by
  obtain ⟨a, u, w, z, e, h0, h1, h2, h3⟩ := h
  exact ⟨a, e, by rw [h0, KR.kr (enc := e1) h1, KR.kr (enc := e2) h2, KR.kr (enc := e3) h3]; rfl⟩, fun x y h => by
  injection h with h1 h
  injection h with h2 h
  injection h with h3 _
  exact Prod.ext (KR.inj (r := r) _ _ h1) (Prod.ext (KR.inj (r := s) _ _ h2) (KR.inj (r := t) _ _ h3))⟩
section
variable {w : Xw} {σ : L2.St} {F H : Hp} {K : PySem.W.Frag} {α β γ δ : Type} {ta tb tc : TE}
/-! ### subscripts -/
theorem e_ixU {r : Rl α} [Mono r] {m : M (List α)} {n : M Nat} (ha : EvC w (ta σ) (lb r) m F H) (hb : EvC w (tb σ) (fz rNat) n F H) : EvC w (tOp (rIxL K) ta tb σ) (fz r) (m.bd fun xs => n.bd fun i => M.of xs[i]?) F H :=
  e_op ha hb (fun _ _ => of_or) fun hz h1 h2 s Q q => by
    obtain ⟨a, vs, rfl, e, al, _⟩ := h1
    obtain ⟨v, hv, hr⟩ := al.get' (of_ok hz)
    exact ⟨a, vs, _, v, rfl, h2, SqL.of e, at_ofG rfl hv, q _ _ _ (Xt.refl s) hr⟩
theorem e_ixI {r : Rl α} [Mono r] {m : M (List α)} {n : M Int} (ha : EvC w (ta σ) (lb r) m F H) (hb : EvC w (tb σ) (fz rI) n F H) : EvC w (tOp (rIxL K) ta tb σ) (fz r) (m.bd fun xs => n.bd fun i => M.of (atI xs i)) F H :=
  e_op ha hb (fun _ _ => of_or) fun hz h1 h2 s Q q => by
    obtain ⟨a, vs, rfl, e, al, _⟩ := h1
    obtain ⟨v, hv, hr⟩ := atI_al al (of_ok hz)
    exact ⟨a, vs, _, v, rfl, h2, SqL.of e, hv, q _ _ _ (Xt.refl s) hr⟩
theorem e_ixS {m : M (List Nat)} {n : M Nat} (ha : EvC w (ta σ) (fz qS) m F H) (hb : EvC w (tb σ) (fz rNat) n F H) : EvC w (tOp rIxS ta tb σ) (fz rC) (m.bd fun xs => n.bd fun i => M.of xs[i]?) F H :=
  e_op ha hb (fun _ _ => of_or) fun hz h1 h2 s Q q => by
    obtain ⟨rfl, hl⟩ := h1
    exact ⟨_, _, _, rfl, h2, by rw [S_len]; exact hl, by rw [S_cps]; exact at_ofG rfl (of_ok hz), q _ _ _ (Xt.refl s) rfl⟩
theorem e_ixSI {m : M (List Nat)} {n : M Int} (ha : EvC w (ta σ) (fz qS) m F H) (hb : EvC w (tb σ) (fz rI) n F H) : EvC w (tOp rIxS ta tb σ) (fz rC) (m.bd fun xs => n.bd fun i => M.of (atI xs i)) F H :=
  e_op ha hb (fun _ _ => of_or) fun hz h1 h2 s Q q => by
    obtain ⟨rfl, hl⟩ := h1
    exact ⟨_, _, _, rfl, h2, by rw [S_len]; exact hl, by rw [S_cps]; exact of_ok hz, q _ _ _ (Xt.refl s) rfl⟩
theorem e_tupix {R : Rl α} {r' : Rl β} {f : α → β} {k : Int} {m : M α} (ha : EvC w (ta σ) (fz R) m F H) (hk : ∀ F v x, R F v x → ∃ p xs u, v = .ref p ∧ F p = some (.tup xs) ∧ atI xs k = some u ∧ r' F u (f x)) :
    EvC w (tOp (rIxT K) ta (tC (.int k)) σ) (fz r') (m.bd fun x => .ok (f x)) F H :=
  EvC.last (D := fun (v : V) H (Q : VK) => tC (.int k) σ H fun y H2 => rIxT K v y H2 Q) (R' := fz r') ha (fun _ => .inl ⟨_, rfl⟩) fun x y v F1 H1 F2 H2 hz e1 e2 hr Q q => by
    cases hz
    obtain ⟨p, xs, u, rfl, h1, h2, h3⟩ := hk _ _ _ hr
    exact ⟨p, xs, k, u, rfl, rfl, SqT.of (e2.fh _ _ h1), h2, q _ _ _ (Xt.refl e2.fh) h3⟩
theorem e_2_0 {r : Rl α} {s : Rl β} {m : M (α × β)} (ha : EvC w (ta σ) (fz (rP r s)) m F H) : EvC w (tOp (rIxT K) ta (tC (.int 0)) σ) (fz r) (m.bd fun x => .ok x.1) F H := e_tupix ha fun F v x ⟨a, u, z, e, h0, h1, h2⟩ => ⟨a, _, u, e, h0, rfl, h1⟩
theorem e_2_1 {r : Rl α} {s : Rl β} {m : M (α × β)} (ha : EvC w (ta σ) (fz (rP r s)) m F H) : EvC w (tOp (rIxT K) ta (tC (.int 1)) σ) (fz s) (m.bd fun x => .ok x.2) F H := e_tupix ha fun F v x ⟨a, u, z, e, h0, h1, h2⟩ => ⟨a, _, z, e, h0, rfl, h2⟩
theorem e_3_0 {r : Rl α} {s : Rl β} {t : Rl γ} {m : M (α × β × γ)} (ha : EvC w (ta σ) (fz (qT3 r s t)) m F H) : EvC w (tOp (rIxT K) ta (tC (.int 0)) σ) (fz r) (m.bd fun x => .ok x.1) F H := e_tupix ha fun F v x ⟨a, u, z, y, e, h0, h1, h2, h3⟩ => ⟨a, _, u, e, h0, rfl, h1⟩
theorem e_3_1 {r : Rl α} {s : Rl β} {t : Rl γ} {m : M (α × β × γ)} (ha : EvC w (ta σ) (fz (qT3 r s t)) m F H) : EvC w (tOp (rIxT K) ta (tC (.int 1)) σ) (fz s) (m.bd fun x => .ok x.2.1) F H := e_tupix ha fun F v x ⟨a, u, z, y, e, h0, h1, h2, h3⟩ => ⟨a, _, z, e, h0, rfl, h2⟩
theorem e_3_2 {r : Rl α} {s : Rl β} {t : Rl γ} {m : M (α × β × γ)} (ha : EvC w (ta σ) (fz (qT3 r s t)) m F H) : EvC w (tOp (rIxT K) ta (tC (.int 2)) σ) (fz t) (m.bd fun x => .ok x.2.2) F H := e_tupix ha fun F v x ⟨a, u, z, y, e, h0, h1, h2, h3⟩ => ⟨a, _, y, e, h0, rfl, h3⟩
/-! ### parts -/
def peq : Hp → Hp → Hp → Option Int → Option Int → Prop := fun _ _ _ o x => o = x
instance : Dn peq := ⟨fun _ h => h⟩
instance : Up peq := ⟨fun _ h => h⟩
instance : Fl peq := ⟨fun h => h⟩
theorem o_none : EvC w (tNoPart σ) peq (.ok none) F H := fun F1 H1 e Q q => q _ _ _ (Xt.refl e.fh) rfl
theorem o_some {m : M Int} (ha : EvC w (ta σ) (fz rI) m F H) : EvC w (tPart ta σ) peq (m.bd fun x => .ok (some x)) F H :=
  EvC.last (D := fun (v : V) H (Q : Option Int → Hp → Prop) => ∃ i, v = .int i ∧ Q (some i) H) (R' := peq) ha (fun _ => .inl ⟨_, rfl⟩) fun x y v F1 H1 F2 H2 hz e1 e2 hr Q q => by cases hz; exact ⟨_, hr, q _ _ _ (Xt.refl e2.fh) rfl⟩
section
variable {tl th : TO} {a b : M (Option Int)}
theorem e_slS {m : M (List Nat)} (ha : EvC w (ta σ) (fz qS) m F H) (hl : EvC w (tl σ) peq a F H) (hh : EvC w (th σ) peq b F H) : EvC w (tSl rSlS ta tl th σ) (fz qS) (m.bd fun x => a.bd fun lo => b.bd fun hi => .ok (cutG x lo hi)) F H :=
  EvC.bind (D := fun (x : V) H (Q : VK) => tl σ H fun l H2 => th σ H2 fun u H3 => rSlS x l u H3 Q) (R' := fz qS) ha fun x v F1 H1 F2 H2 e1 e2 hr => by
    obtain ⟨rfl, hz⟩ := hr
    refine EvN.bind (D := fun l H (Q : VK) => th σ H fun u H3 => rSlS _ l u H3 Q) (hl F2 H2 (e1.trans e2)) fun lo _ F3 H3 e3 hlo => ?_
    cases hlo
    refine EvN.bind (D := fun u H (Q : VK) => rSlS _ lo u H Q) (hh F3 H3 ((e1.trans e2).trans e3)) fun hi _ F4 H4 e4 hhi => ?_
    cases hhi
    exact fun Q q => ⟨_, rfl, by rw [S_len]; exact hz, q _ _ _ (Xt.refl e4.fh) ⟨by rw [S_cut]; rfl, Nat.le_trans (cutG_le _ _ _) hz⟩⟩
theorem Al.cut {r : Rl α} {F : Hp} {vs : List V} {xs : List α} (h : Al r F vs xs) (lo hi : Option Int) : Al r F (cutV vs lo hi) (cutG xs lo hi) := by
  have dr : ∀ (k : Nat) {vs : List V} {xs : List α}, Al r F vs xs → Al r F (vs.drop k) (xs.drop k) := by
    intro k
    induction k with
    | zero => exact fun h => h
    | succ k ih => intro vs xs h; cases h with
      | nil => exact .nil
      | cons h t => exact ih t
  have tk : ∀ (k : Nat) {vs : List V} {xs : List α}, Al r F vs xs → Al r F (vs.take k) (xs.take k) := by
    intro k
    induction k with
    | zero => exact fun _ => .nil
    | succ k ih => intro vs xs h; cases h with
      | nil => exact .nil
      | cons h t => exact .cons h (ih t)
  unfold cutV cutG
  rw [h.len]
  exact tk _ (dr _ h)
theorem e_slL {r : Rl α} [Mono r] {m : M (List α)} (ha : EvC w (ta σ) (lb r) m F H) (hl : EvC w (tl σ) peq a F H) (hh : EvC w (th σ) peq b F H) : EvC w (tSl (rSlL K) ta tl th σ) (nw r) (m.bd fun x => a.bd fun lo => b.bd fun hi => .ok (cutG x lo hi)) F H :=
  EvC.bind (D := fun (x : V) H (Q : VK) => tl σ H fun l H2 => th σ H2 fun u H3 => rSlL K x l u H3 Q) (R' := nw r) ha fun x v F1 H1 F2 H2 e1 e2 hr => by
    refine EvN.bind (D := fun l H (Q : VK) => th σ H fun u H3 => rSlL K v l u H3 Q) (hl F2 H2 (e1.trans e2)) fun lo _ F3 H3 e3 hlo => ?_
    cases hlo
    refine EvN.bind (D := fun u H (Q : VK) => rSlL K v lo u H Q) (hh F3 H3 ((e1.trans e2).trans e3)) fun hi _ F4 H4 e4 hhi => ?_
    cases hhi
    obtain ⟨a, vs, rfl, e, al, hz⟩ := Up.up (R := lb r) (e3.trans e4) (Fl.fl (H0' := H4) hr)
    exact fun Q q => ⟨a, vs, rfl, SqL.of e, fun p hp => let ⟨x1, x2⟩ := nw_new e4.fh hp (al.cut lo hi) (Nat.le_trans (cutG_le _ _ _) hz); q _ _ _ x1 x2⟩
end
theorem Al.rev' {r : Rl α} {F : Hp} : ∀ {vs : List V} {xs : List α}, Al r F vs xs → Al r F vs.reverse xs.reverse
  | _, _, .nil => .nil
  | _, _, .cons h t => by
    rw [List.reverse_cons, List.reverse_cons]
    exact (Al.rev' t).snoc h
theorem e_revS {m : M (List Nat)} (ha : EvC w (ta σ) (fz qS) m F H) : EvC w (tRevS ta σ) (fz qS) (m.bd fun x => .ok x.reverse) F H :=
  EvC.last (D := fun (v : V) H (Q : VK) => ∃ l, v = .str (S l) ∧ l.length ≤ sizeLine ∧ Q (.str (S l.reverse)) H) (R' := fz qS) ha (fun _ => .inl ⟨_, rfl⟩) fun x y v F1 H1 F2 H2 hz e1 e2 hr Q q => by
    cases hz
    obtain ⟨rfl, hz⟩ := hr
    exact ⟨_, rfl, hz, q _ _ _ (Xt.refl e2.fh) ⟨rfl, by rw [List.length_reverse]; exact hz⟩⟩
theorem e_revL {r : Rl α} [Mono r] {m : M (List α)} (ha : EvC w (ta σ) (lb r) m F H) : EvC w (tRevL K ta σ) (nw r) (m.bd fun x => .ok x.reverse) F H :=
  EvC.last (D := fun (v : V) H (Q : VK) => ∃ a xs, v = .ref a ∧ SqL K H a xs ∧ ∀ p, H p = none → Q (.ref p) (upd H p (.lst xs.reverse))) (R' := nw r) ha (fun _ => .inl ⟨_, rfl⟩) fun x y v F1 H1 F2 H2 hz e1 e2 hr Q q => by
    cases hz
    obtain ⟨a, vs, rfl, e, al, hz⟩ := hr
    exact ⟨a, vs, rfl, SqL.of e, fun p hp => let ⟨x1, x2⟩ := nw_new e2.fh hp al.rev' (by rw [List.length_reverse]; exact hz); q _ _ _ x1 x2⟩
/-! ### dicts -/
section
variable {κ : Type} [DecidableEq κ] {enc : κ → Key} {encT : κ → List Key} {r : Rl α} {rk : Rl κ} {m : M (List (κ × α))} {n : M κ}
theorem db_get [KR rk enc] {F H : Hp} {v u : V} {x : List (κ × α)} {k : κ} {H0 : Hp} (h : db enc r H0 F H v x) (hk : rk F u k) : ∃ a o, v = .ref a ∧ IsD H a ∧ DGet H a u o ∧ ((aGet x k = none ∧ o = none) ∨ ∃ y z, aGet x k = some y ∧ o = some z ∧ r F z y) := by
  obtain ⟨a, kvs, rfl, e, ad, _⟩ := h
  refine ⟨a, valV kvs (enc k), rfl, .inl ⟨_, Rd.of e⟩, by rw [KR.kr (enc := enc) hk]; exact DGet.k e, ?_⟩
  exact AD.get (KR.inj (r := rk) (enc := enc)) k ad
theorem dbT_get [KT rk encT] {F H : Hp} {v u : V} {x : List (κ × α)} {k : κ} {H0 : Hp} (s : Same F H) (h : dbT encT r H0 F H v x) (hk : rk F u k) : ∃ a o, v = .ref a ∧ IsD H a ∧ DGet H a u o ∧ ((aGet x k = none ∧ o = none) ∨ ∃ y z, aGet x k = some y ∧ o = some z ∧ r F z y) := by
  obtain ⟨a, kvs, rfl, e, ad, _⟩ := h
  obtain ⟨b, rfl, hb⟩ := KT.kt (enc := encT) hk
  refine ⟨a, valV kvs (encT k), rfl, .inr ⟨_, Rd.of e⟩, DGet.t e (s _ _ hb), ?_⟩
  exact AD.get (KT.inj (r := rk) (enc := encT)) k ad
/-- how a dict answers, whatever its keys -/
class DG (R : R3 (List (κ × α))) (rk : Rl κ) (r : outParam (Rl α)) : Prop where
  isd : ∀ {H0 F H v x}, R H0 F H v x → ∃ a, v = .ref a ∧ IsD H a
  dg : ∀ {H0 F H v u x k}, Same F H → R H0 F H v x → rk F u k → ∃ a o, v = .ref a ∧ IsD H a ∧ DGet H a u o ∧ ((aGet x k = none ∧ o = none) ∨ ∃ y z, aGet x k = some y ∧ o = some z ∧ r F z y)
instance [KR rk enc] : DG (db enc r) rk r := ⟨fun ⟨a, kvs, e1, e, _⟩ => ⟨a, e1, .inl ⟨_, Rd.of e⟩⟩, fun _ h hk => db_get h hk⟩
instance [KT rk encT] : DG (dbT encT r) rk r := ⟨fun ⟨a, kvs, e1, e, _⟩ => ⟨a, e1, .inr ⟨_, Rd.of e⟩⟩, fun s h hk => dbT_get s h hk⟩
section
variable {R : R3 (List (κ × α))} [DG R rk r] [Up R] [Fl R] [Mono r] [Mono rk]
theorem e_dget (ha : EvC w (ta σ) R m F H) (hb : EvC w (tb σ) (fz rk) n F H) : EvC w (tDGet ta tb σ) (fz r) (m.bd fun x => n.bd fun k => M.of (aGet x k)) F H := by
  refine EvC.bind (D := fun (x : V) H (Q : VK) => tb σ H fun y H2 => ∃ a v, x = .ref a ∧ DGet H2 a y (some v) ∧ Q v H2) (R' := fz r) ha fun x v F1 H1 F2 H2 e1 e2 hr => ?_
  refine EvC.last (D := fun (y : V) H (Q : VK) => ∃ a u, v = .ref a ∧ DGet H a y (some u) ∧ Q u H) (R' := fz r) (hb.up (e1.trans e2)) (fun _ => of_or) (fun k z u F3 H3 F4 H4 hz e3 e4 hk Q q => ?_) F2 H2 (Xt.refl e2.fh)
  obtain ⟨a, o, rfl, _, hd, hc⟩ := DG.dg (R := R) (rk := rk) (r := r) (H0 := H1) e4.fh (Up.up (e3.trans e4) hr) hk
  have hz := of_ok hz
  rcases hc with ⟨c1, _⟩ | ⟨y, z', c1, rfl, c3⟩
  · rw [c1] at hz; cases hz
  · rw [c1] at hz; cases hz
    exact ⟨a, z', rfl, hd, q _ _ _ (Xt.refl e4.fh) c3⟩
theorem e_din {r : Rl α} [DG R rk r] [Up R] [Fl R] [Mono rk] (hb : EvC w (tb σ) (fz rk) n F H) (ha : EvC w (ta σ) R m F H) : EvC w (tDIn tb ta σ) (fz rB) (n.bd fun k => m.bd fun x => .ok (aGet x k).isSome) F H := by
  refine EvC.bind (D := fun (y : V) H (Q : VK) => ta σ H fun x H2 => ∃ a o, x = .ref a ∧ DGet H2 a y o ∧ Q (.bl o.isSome) H2) (R' := fz rB) hb fun k u F1 H1 F2 H2 e1 e2 hk => ?_
  refine EvC.last (D := fun (x : V) H (Q : VK) => ∃ a o, x = .ref a ∧ DGet H a u o ∧ Q (.bl o.isSome) H) (R' := fz rB) (ha.up (e1.trans e2)) (fun _ => .inl ⟨_, rfl⟩) (fun x z v F3 H3 F4 H4 hz e3 e4 hr Q q => ?_) F2 H2 (Xt.refl e2.fh)
  cases hz
  obtain ⟨a, o, rfl, _, hd, hc⟩ := DG.dg (R := R) (rk := rk) (r := r) (H0 := H3) e4.fh hr (Mono.mono (r := rk) (e3.trans e4).ff hk)
  refine ⟨a, o, rfl, hd, q _ _ _ (Xt.refl e4.fh) ?_⟩
  rcases hc with ⟨c1, rfl⟩ | ⟨y, z', c1, rfl, c3⟩ <;> rw [c1] <;> rfl
theorem e_dnotin {r : Rl α} [DG R rk r] [Up R] [Fl R] [Mono rk] (hb : EvC w (tb σ) (fz rk) n F H) (ha : EvC w (ta σ) R m F H) : EvC w (tDNotIn tb ta σ) (fz rB) (n.bd fun k => m.bd fun x => .ok (!(aGet x k).isSome)) F H := by
  refine EvC.bind (D := fun (y : V) H (Q : VK) => ta σ H fun x H2 => ∃ a o, x = .ref a ∧ DGet H2 a y o ∧ Q (.bl (!o.isSome)) H2) (R' := fz rB) hb fun k u F1 H1 F2 H2 e1 e2 hk => ?_
  refine EvC.last (D := fun (x : V) H (Q : VK) => ∃ a o, x = .ref a ∧ DGet H a u o ∧ Q (.bl (!o.isSome)) H) (R' := fz rB) (ha.up (e1.trans e2)) (fun _ => .inl ⟨_, rfl⟩) (fun x z v F3 H3 F4 H4 hz e3 e4 hr Q q => ?_) F2 H2 (Xt.refl e2.fh)
  cases hz
  obtain ⟨a, o, rfl, _, hd, hc⟩ := DG.dg (R := R) (rk := rk) (r := r) (H0 := H3) e4.fh hr (Mono.mono (r := rk) (e3.trans e4).ff hk)
  refine ⟨a, o, rfl, hd, q _ _ _ (Xt.refl e4.fh) ?_⟩
  rcases hc with ⟨c1, rfl⟩ | ⟨y, z', c1, rfl, c3⟩ <;> rw [c1] <;> rfl
theorem e_dget1 (ha : EvC w (ta σ) R m F H) (hb : EvC w (tb σ) (fz rk) n F H) : EvC w (tDGet1 ta tb σ) (fz (rO r)) (m.bd fun x => n.bd fun k => .ok (aGet x k)) F H := by
  intro F0 H0 e0
  have ha' : EvC w (fun H Q => ta σ H fun x H1 => Q x H1) R m F H := ha
  refine EvC.bind (D := fun (x : V) H (Q : VK) => ∃ a, x = .ref a ∧ IsD H a ∧ tb σ H fun y H2 => ∃ o, DGet H2 a y o ∧ Q (o.getD .non) H2) (R' := fz (rO r)) ha (fun x v F1 H1 F2 H2 e1 e2 hr => ?_) F0 H0 e0
  have hb2 := hb F2 H2 (e1.trans e2)
  cases n with
  | bad => trivial
  | exc e =>
    intro o Q
    have : ∃ a, v = .ref a ∧ IsD H2 a := DG.isd (R := R) (rk := rk) (r := r) hr
    obtain ⟨a, rfl, hd⟩ := this
    exact ⟨a, rfl, hd, hb2 o _⟩
  | ok k =>
    intro Q q
    obtain ⟨a, rfl, hd⟩ : ∃ a, v = .ref a ∧ IsD H2 a := DG.isd (R := R) (rk := rk) (r := r) hr
    refine ⟨a, rfl, hd, hb2 _ fun u F3 H3 e3 hk => ?_⟩
    obtain ⟨a', o, ea, _, hd, hc⟩ := DG.dg (R := R) (rk := rk) (r := r) (H0 := H1) e3.fh (Up.up e3 hr) hk
    cases ea
    refine ⟨o, hd, q _ _ _ e3 ?_⟩
    rcases hc with ⟨c1, rfl⟩ | ⟨y, z', c1, rfl, c3⟩
    · rw [c1]; rfl
    · rw [c1]; exact c3
theorem e_dget2 {tx : TE} {d : M α} (ha : EvC w (ta σ) R m F H) (hb : EvC w (tb σ) (fz rk) n F H) (hx : EvC w (tx σ) (fz r) d F H) : EvC w (tDGet2 ta tb tx σ) (fz r) (m.bd fun x => n.bd fun k => d.bd fun z => .ok ((aGet x k).getD z)) F H := by
  intro F0 H0 e0
  refine EvC.bind (D := fun (x : V) H (Q : VK) => ∃ a, x = .ref a ∧ IsD H a ∧ tb σ H fun y H2 => tx σ H2 fun z H3 => ∃ o, DGet H3 a y o ∧ Q (o.getD z) H3) (R' := fz r) ha (fun x v F1 H1 F2 H2 e1 e2 hr => ?_) F0 H0 e0
  obtain ⟨a, rfl, hd⟩ : ∃ a, v = .ref a ∧ IsD H2 a := DG.isd (R := R) (rk := rk) (r := r) hr
  have key : EvN w (fun H (Q : VK) => tb σ H fun y H2 => tx σ H2 fun z H3 => ∃ o, DGet H3 a y o ∧ Q (o.getD z) H3) (fz r) (n.bd fun k => d.bd fun z => .ok ((aGet x k).getD z)) F2 H2 := by
    refine EvN.bind (D := fun y H (Q : VK) => tx σ H fun z H3 => ∃ o, DGet H3 a y o ∧ Q (o.getD z) H3) (hb F2 H2 (e1.trans e2)) fun k u F3 H3 e3 hk => ?_
    refine EvN.bind (D := fun z H (Q : VK) => ∃ o, DGet H a u o ∧ Q (o.getD z) H) (hx F3 H3 ((e1.trans e2).trans e3)) fun z vz F4 H4 e4 hz => ?_
    intro Q q
    obtain ⟨a', o, ea, _, hd, hc⟩ := DG.dg (R := R) (rk := rk) (r := r) (H0 := H1) e4.fh (Up.up (e3.trans e4) hr) (Mono.mono (r := rk) e4.ff hk)
    cases ea
    refine ⟨o, hd, q _ _ _ (Xt.refl e4.fh) ?_⟩
    rcases hc with ⟨c1, rfl⟩ | ⟨y, z', c1, rfl, c3⟩
    · rw [c1]; exact hz
    · rw [c1]; exact c3
  show EvN w _ _ (n.bd fun k => d.bd fun z => .ok ((aGet x k).getD z)) F2 H2
  cases hn : (n.bd fun k => d.bd fun z => M.ok ((aGet x k).getD z)) with
  | bad => trivial
  | exc e => rw [hn] at key; exact fun o Q => ⟨a, rfl, hd, key o _⟩
  | ok y => rw [hn] at key; exact fun Q q => ⟨a, rfl, hd, key Q q⟩
end
end
end
end SF
namespace SF
open PySem PySem.Spec PyProof.Rows L2
/-- values that == and in compare by value -/
class Fla {α : Type} [DecidableEq α] (r : Rl α) : Prop where
  fla : ∀ {F v u} {x y : α}, r F v x → r F u y → flatV v = true ∧ eqV v u = decide (x = y)
theorem eqV_ss (a b : List Nat) : eqV (.str (S a)) (.str (S b)) = decide (a = b) := by
  show (S a == S b) = _
  by_cases h : a = b
  · subst h; simp
  · rw [decide_eq_false h, beq_eq_false_iff_ne]
    exact fun e => h (S_inj.mp e)
instance : Fla qS := ⟨fun h1 h2 => by obtain ⟨rfl, _⟩ := h1; obtain ⟨rfl, _⟩ := h2; exact ⟨rfl, eqV_ss _ _⟩⟩
instance : Fla rC := ⟨fun h1 h2 => by
  cases h1; cases h2
  refine ⟨rfl, ?_⟩
  rw [eqV_ss]
  exact decide_eq_decide.mpr (by simp)⟩
theorem eqV_ii (a b : Int) : eqV (.int a) (.int b) = decide (a = b) := by
  show (a == b) = _
  by_cases h : a = b
  · subst h; simp
  · rw [decide_eq_false h, beq_eq_false_iff_ne]
    exact h
instance : Fla rI := ⟨fun h1 h2 => by cases h1; cases h2; exact ⟨rfl, eqV_ii _ _⟩⟩
instance : Fla rNat := ⟨fun h1 h2 => by
  cases h1; cases h2
  refine ⟨rfl, ?_⟩
  rw [eqV_ii]
  exact decide_eq_decide.mpr (by omega)⟩
theorem inV_al {α : Type} [DecidableEq α] {r : Rl α} [Fla r] {F : Hp} {v : V} {x : α} (hx : r F v x) : ∀ {vs : List V} {xs : List α}, Al r F vs xs → vs.all flatV = true ∧ inV v vs = decide (x ∈ xs)
  | _, _, .nil => ⟨rfl, rfl⟩
  | _, _, .cons (l₁ := us) (l₂ := ys) (a := u) (b := y) h t => by
    obtain ⟨h1, h2⟩ := inV_al hx t
    obtain ⟨f1, f2⟩ := Fla.fla (r := r) h hx
    unfold inV at h2 ⊢
    rw [List.all_cons, List.any_cons, h1, h2, f1, f2]
    refine ⟨rfl, ?_⟩
    by_cases e : y = x
    · subst e; simp
    · have e' : ¬ x = y := fun z => e z.symm
      simp [e, e']
/-- a tuple of like items -/
def qTL {α : Type} (r : Rl α) : Rl (List α) := fun F v xs => ∃ a vs, v = .ref a ∧ F a = some (.tup vs) ∧ Al r F vs xs
instance {α : Type} {r : Rl α} [Mono r] : Mono (qTL r) := ⟨fun e h => by
  obtain ⟨a, vs, e1, h1, h2⟩ := h
  exact ⟨a, vs, e1, e _ _ h1, h2.mono e⟩⟩
section
variable {w : Xw} {σ : L2.St} {F H : Hp} {K : PySem.W.Frag} {α β γ δ : Type} {ta tb tc : TE}
theorem e_in [DecidableEq α] {r : Rl α} [Mono r] [Fla r] {m : M α} {n : M (List α)} (ha : EvC w (ta σ) (fz r) m F H) (hb : EvC w (tb σ) (lb r) n F H) : EvC w (tOp (rIn K false) ta tb σ) (fz rB) (m.bd fun x => n.bd fun xs => .ok (decide (x ∈ xs))) F H :=
  e_op ha hb (fun _ _ => .inl ⟨_, rfl⟩) fun hz h1 h2 s Q q => by
    cases hz
    obtain ⟨a, vs, rfl, e, al, _⟩ := h2
    obtain ⟨i1, i2⟩ := inV_al (r := r) h1 al
    refine ⟨a, vs, rfl, .inl (SqL.of e), (Fla.fla (r := r) h1 h1).1, i1, ?_⟩
    rw [if_neg Bool.false_ne_true, i2]
    exact q _ _ _ (Xt.refl s) rfl
theorem e_nin [DecidableEq α] {r : Rl α} [Mono r] [Fla r] {m : M α} {n : M (List α)} (ha : EvC w (ta σ) (fz r) m F H) (hb : EvC w (tb σ) (lb r) n F H) : EvC w (tOp (rIn K true) ta tb σ) (fz rB) (m.bd fun x => n.bd fun xs => .ok (!decide (x ∈ xs))) F H :=
  e_op ha hb (fun _ _ => .inl ⟨_, rfl⟩) fun hz h1 h2 s Q q => by
    cases hz
    obtain ⟨a, vs, rfl, e, al, _⟩ := h2
    obtain ⟨i1, i2⟩ := inV_al (r := r) h1 al
    refine ⟨a, vs, rfl, .inl (SqL.of e), (Fla.fla (r := r) h1 h1).1, i1, ?_⟩
    rw [if_pos rfl, i2]
    exact q _ _ _ (Xt.refl s) rfl
theorem e_ninT [DecidableEq α] {r : Rl α} [Mono r] [Fla r] {m : M α} {n : M (List α)} (ha : EvC w (ta σ) (fz r) m F H) (hb : EvC w (tb σ) (fz (qTL r)) n F H) : EvC w (tOp (rIn K true) ta tb σ) (fz rB) (m.bd fun x => n.bd fun xs => .ok (!decide (x ∈ xs))) F H :=
  e_op ha hb (fun _ _ => .inl ⟨_, rfl⟩) fun hz h1 h2 s Q q => by
    cases hz
    obtain ⟨a, vs, rfl, e, al⟩ := h2
    obtain ⟨i1, i2⟩ := inV_al (r := r) h1 al
    refine ⟨a, vs, rfl, .inr (SqT.of (s _ _ e)), (Fla.fla (r := r) h1 h1).1, i1, ?_⟩
    rw [if_pos rfl, i2]
    exact q _ _ _ (Xt.refl s) rfl
theorem e_tupL {r : Rl α} [Mono r] {ts : TA} {T : ∀ {γ : Type}, (List α → M γ) → M γ} (hs : EvA w ts σ (ral r) T F H) : EvC w (tTup ts σ) (fz (qTL r)) (T fun xs => M.gd (xs.length ≤ sizeLine) (.ok xs)) F H := fun F0 H0 e0 => by
  refine hs F0 H0 e0 (fun vs H Q => vs.length ≤ sizeLine ∧ ∀ p, H p = none → Q (.ref p) (upd H p (.tup vs))) (fz (qTL r)) _ fun xs vs F2 H2 e2 al => ?_
  by_cases hz : xs.length ≤ sizeLine
  · rw [M.gd_pos hz]
    refine fun Q q => ⟨by rw [Al.len al]; exact hz, fun p hp => ?_⟩
    have e3 := (Xt.refl e2.fh).newF hp (o := .tup vs)
    exact q _ _ _ e3 ⟨p, vs, rfl, upd_same, Al.mono e3.ff al⟩
  · rw [M.gd_neg hz]; trivial
/-- a sign in a text -/
theorem e_inS {m : M Nat} {n : M (List Nat)} (ha : EvC w (ta σ) (fz rC) m F H) (hb : EvC w (tb σ) (fz qS) n F H) :
    EvC w (tOp (fun x y H Q => ∃ (c : Nat) (z : Str), x = .str ⟨#[c]⟩ ∧ y = .str z ∧ Q (.bl (decide (c ∈ z.cps.toList))) H) ta tb σ) (fz rB) (m.bd fun x => n.bd fun xs => .ok (decide (x ∈ xs))) F H :=
  e_op ha hb (fun _ _ => .inl ⟨_, rfl⟩) fun {x y z v u F2 H2} hz h1 h2 s Q q => by
    cases hz
    obtain ⟨rfl, _⟩ := h2
    refine ⟨x, _, h1, rfl, q _ _ _ (Xt.refl s) ?_⟩
    show V.bl _ = V.bl _
    rw [S_cps]
theorem e_ninS {m : M Nat} {n : M (List Nat)} (ha : EvC w (ta σ) (fz rC) m F H) (hb : EvC w (tb σ) (fz qS) n F H) :
    EvC w (tOp (fun x y H Q => ∃ (c : Nat) (z : Str), x = .str ⟨#[c]⟩ ∧ y = .str z ∧ Q (.bl (!decide (c ∈ z.cps.toList))) H) ta tb σ) (fz rB) (m.bd fun x => n.bd fun xs => .ok (!decide (x ∈ xs))) F H :=
  e_op ha hb (fun _ _ => .inl ⟨_, rfl⟩) fun {x y z v u F2 H2} hz h1 h2 s Q q => by
    cases hz
    obtain ⟨rfl, _⟩ := h2
    refine ⟨x, _, h1, rfl, q _ _ _ (Xt.refl s) ?_⟩
    show V.bl _ = V.bl _
    rw [S_cps]
/-- texts by order -/
theorem e_ltS {m n : M (List Nat)} (ha : EvC w (ta σ) (fz qS) m F H) (hb : EvC w (tb σ) (fz qS) n F H) :
    EvC w (tOp (fun x y H Q => ∃ i j, x = .str i ∧ y = .str j ∧ Q (.bl (decide (i.cps.toList < j.cps.toList))) H) ta tb σ) (fz rB) (m.bd fun x => n.bd fun y => .ok (decide (x < y))) F H :=
  e_op ha hb (fun _ _ => .inl ⟨_, rfl⟩) fun {x y z v u F2 H2} hz h1 h2 s Q q => by
    cases hz
    obtain ⟨rfl, _⟩ := h1
    obtain ⟨rfl, _⟩ := h2
    refine ⟨_, _, rfl, rfl, q _ _ _ (Xt.refl s) ?_⟩
    show V.bl _ = V.bl _
    rw [S_cps, S_cps]
/-- 'A' <= c <= 'Z' -/
theorem le_one (a b : Nat) : (!decide ((S [b]).cps.toList < (S [a]).cps.toList)) = decide (a ≤ b) := by
  rw [S_cps, S_cps]
  by_cases h : a ≤ b
  · simp [List.cons_lt_cons_iff, h]
  · simp [List.cons_lt_cons_iff, h]; omega
theorem e_leC {m n : M Nat} (ha : EvC w (ta σ) (fz rC) m F H) (hb : EvC w (tb σ) (fz rC) n F H) :
    EvC w (tOp (fun x y H Q => ∃ i j, x = .str i ∧ y = .str j ∧ Q (.bl (!decide (j.cps.toList < i.cps.toList))) H) ta tb σ) (fz rB) (m.bd fun x => n.bd fun y => .ok (decide (x ≤ y))) F H :=
  e_op ha hb (fun _ _ => .inl ⟨_, rfl⟩) fun {x y z v u F2 H2} hz h1 h2 s Q q => by
    cases hz
    exact ⟨_, _, h1, h2, q _ _ _ (Xt.refl s) (congrArg V.bl (le_one x y))⟩
/-- a <= b <= c: the middle is asked once -/
def O2 {α β : Type} (r1 : Rl α) (r2 : Rl β) (r : R2) (f : α → β → Bool) : Prop := ∀ {F : Hp} {v u : V} {x : α} {y : β} {H : Hp} {Q : VK}, r1 F v x → r2 F u y → Q (.bl (f x y)) H → r v u H Q
theorem e_chain {r r' : R2} {r1 : Rl α} {r2 : Rl β} {r3 : Rl γ} [Mono r1] [Mono r2] {f : α → β → Bool} {g : β → γ → Bool} {m : M α} {n : M β} {l : M γ} (ha : EvC w (ta σ) (fz r1) m F H) (hb : EvC w (tb σ) (fz r2) n F H) (hc : EvC w (tc σ) (fz r3) l F H)
    (h1 : O2 r1 r2 r f) (h2 : O2 r2 r3 r' g) : EvC w (tChain r r' ta tb tc σ) (fz rB) (m.bd fun x => n.bd fun y => if f x y = true then l.bd fun z => .ok (g y z) else .ok false) F H := by
  refine EvC.bind (D := fun (x : V) H (Q : VK) => tb σ H fun y H2 => r x y H2 fun z H3 => ∃ k, z = .bl k ∧ (if k = true then tc σ H3 fun w' H4 => r' y w' H4 Q else Q (.bl false) H3)) (R' := fz rB) ha fun x v F1 H1 F2 H2 e1 e2 hr => ?_
  refine EvN.bind (D := fun (y : V) H (Q : VK) => r v y H fun z H3 => ∃ k, z = .bl k ∧ (if k = true then tc σ H3 fun w' H4 => r' y w' H4 Q else Q (.bl false) H3)) (R' := fz rB) (hb F2 H2 (e1.trans e2)) fun y u F3 H3 e3 hs => ?_
  have hr3 : r1 F3 v x := Mono.mono (r := r1) e3.ff hr
  have hcc := hc F3 H3 ((e1.trans e2).trans e3)
  cases hf : f x y with
  | false =>
    rw [if_neg Bool.false_ne_true]
    exact fun Q q => h1 hr3 hs ⟨_, rfl, by rw [hf]; exact iteF (q _ _ _ (Xt.refl e3.fh) rfl)⟩
  | true =>
    rw [if_pos rfl]
    cases l with
    | bad => trivial
    | exc e => exact fun o Q => h1 hr3 hs ⟨_, rfl, by rw [hf]; exact iteT (hcc o _)⟩
    | ok z => exact fun Q q => h1 hr3 hs ⟨_, rfl, by rw [hf]; exact iteT (hcc _ fun v4 F4 H4 e4 ht => h2 (Mono.mono (r := r2) e4.ff hs) ht (q _ _ _ e4 rfl))⟩
theorem e_chainP {r r' : R2} {r1 : Rl α} {r2 : Rl β} {r3 : Rl γ} [Mono r1] [Mono r2] {f : α → β → Bool} {g : β → γ → Bool} {x : α} {y : β} {z : γ} (ha : EvC w (ta σ) (fz r1) (.ok x) F H) (hb : EvC w (tb σ) (fz r2) (.ok y) F H) (hc : EvC w (tc σ) (fz r3) (.ok z) F H)
    (h1 : O2 r1 r2 r f) (h2 : O2 r2 r3 r' g) : EvC w (tChain r r' ta tb tc σ) (fz rB) (.ok (f x y && g y z)) F H := by
  have h := e_chain ha hb hc h1 h2
  have e : (M.bd (.ok x) fun x => M.bd (.ok y) fun y => if f x y = true then M.bd (.ok z) fun z => .ok (g y z) else .ok false) = .ok (f x y && g y z) := by
    show (if f x y = true then M.ok (g y z) else .ok false) = _
    cases f x y <;> rfl
  rw [e] at h; exact h
theorem o_lt : O2 rI rI (rI0 fun i j => .bl (decide (i < j))) (fun x y => decide (x < y)) := fun h1 h2 q => ⟨_, _, h1, h2, q⟩
theorem o_le : O2 rI rI (rI0 fun i j => .bl (decide (i ≤ j))) (fun x y => decide (x ≤ y)) := fun h1 h2 q => ⟨_, _, h1, h2, q⟩
theorem o_ltU : O2 rNat rNat (rI0 fun i j => .bl (decide (i < j))) (fun x y => decide (x < y)) := fun {F v u x y H Q} h1 h2 q => ⟨_, _, h1, h2, (congrArg (fun b => Q (V.bl b) H) (dec_lt x y)).mpr q⟩
theorem o_leU : O2 rNat rNat (rI0 fun i j => .bl (decide (i ≤ j))) (fun x y => decide (x ≤ y)) := fun {F v u x y H Q} h1 h2 q => ⟨_, _, h1, h2, (congrArg (fun b => Q (V.bl b) H) (dec_le x y)).mpr q⟩
theorem o_leC : O2 rC rC (fun x y H Q => ∃ i j, x = .str i ∧ y = .str j ∧ Q (.bl (!decide (j.cps.toList < i.cps.toList))) H) (fun x y => decide (x ≤ y)) := fun {F v u x y H Q} h1 h2 q => ⟨_, _, h1, h2, (congrArg (fun b => Q (V.bl b) H) (le_one x y)).mpr q⟩
/-! ### built-ins of one argument -/
theorem e_cb1 {R : R3 α} [Up R] [Fl R] {R' : R3 β} [Dn R'] {r : List V → Hp → VK → Prop} {m : M α} {f : α → M β} (ha : EvC w (ta σ) R m F H) (hf : ∀ x, (∃ y, f x = .ok y) ∨ f x = .bad)
    (op : ∀ {x y v F2 H2}, f x = .ok y → R H2 F2 H2 v x → Same F2 H2 → ∀ Q : VK, (∀ u F3 H3, Xt F2 H2 F3 H3 → R' H2 F3 H3 u y → Q u H3) → r [v] H2 Q) : EvC w (tCB r (tCons ta tNil) σ) R' (m.bd f) F H :=
  EvC.last (D := fun (v : V) H (Q : VK) => r [v] H Q) (R' := R') ha hf fun x y v F1 H1 F2 H2 hz e1 e2 hr Q q => op hz (Fl.fl hr) e2.fh Q q
theorem e_lenS {m : M (List Nat)} (ha : EvC w (ta σ) (fz qS) m F H) : EvC w (tCB (fun xs H Q => ∃ z, xs = [.str z] ∧ z.length ≤ sizeLine ∧ Q (.int z.length) H) (tCons ta tNil) σ) (fz rNat) (m.bd fun x => .ok x.length) F H :=
  e_cb1 ha (fun _ => .inl ⟨_, rfl⟩) fun hz h1 s Q q => by
    cases hz
    obtain ⟨rfl, hl⟩ := h1
    exact ⟨_, rfl, by rw [S_len]; exact hl, by rw [S_len]; exact q _ _ _ (Xt.refl s) rfl⟩
theorem e_lenL {r : Rl α} [Mono r] {m : M (List α)} (ha : EvC w (ta σ) (lb r) m F H) : EvC w (tCB (rLen K) (tCons ta tNil) σ) (fz rNat) (m.bd fun x => .ok x.length) F H :=
  e_cb1 ha (fun _ => .inl ⟨_, rfl⟩) fun hz h1 s Q q => by
    cases hz
    obtain ⟨a, vs, rfl, e, al, _⟩ := h1
    exact ⟨a, vs, rfl, .inl (SqL.of e), by rw [al.len]; exact q _ _ _ (Xt.refl s) rfl⟩
theorem e_lenD {κ : Type} [DecidableEq κ] {enc : κ → Key} {r : Rl α} [Mono r] {m : M (List (κ × α))} (ha : EvC w (ta σ) (db enc r) m F H) : EvC w (tCB (fun xs H Q => ∃ a kvs, xs = [V.ref a] ∧ H a = some (.dK kvs) ∧ Q (.int kvs.length) H) (tCons ta tNil) σ) (fz rNat) (m.bd fun x => .ok x.length) F H :=
  e_cb1 ha (fun _ => .inl ⟨_, rfl⟩) fun hz h1 s Q q => by
    cases hz
    obtain ⟨a, vs, rfl, e, al, _⟩ := h1
    exact ⟨a, vs, rfl, e, by rw [al.len]; exact q _ _ _ (Xt.refl s) rfl⟩
theorem e_all {m : M (List Bool)} (ha : EvC w (ta σ) (lb rB) m F H) : EvC w (tCB (rAll K) (tCons ta tNil) σ) (fz rB) (m.bd fun x => .ok (x.all id)) F H :=
  e_cb1 ha (fun _ => .inl ⟨_, rfl⟩) fun hz h1 s Q q => by
    cases hz
    obtain ⟨a, vs, rfl, e, al, _⟩ := h1
    exact ⟨a, _, rfl, SqL.of (by rw [e, al.bls]), q _ _ _ (Xt.refl s) rfl⟩
theorem e_any {m : M (List Bool)} (ha : EvC w (ta σ) (lb rB) m F H) : EvC w (tCB (rAny K) (tCons ta tNil) σ) (fz rB) (m.bd fun x => .ok (x.any id)) F H :=
  e_cb1 ha (fun _ => .inl ⟨_, rfl⟩) fun hz h1 s Q q => by
    cases hz
    obtain ⟨a, vs, rfl, e, al, _⟩ := h1
    exact ⟨a, _, rfl, SqL.of (by rw [e, al.bls]), q _ _ _ (Xt.refl s) rfl⟩
theorem e_sum {m : M (List Int)} (ha : EvC w (ta σ) (lb rI) m F H) : EvC w (tCB (rSum K) (tCons ta tNil) σ) (fz rI) (m.bd fun x => .ok x.sum) F H :=
  e_cb1 ha (fun _ => .inl ⟨_, rfl⟩) fun hz h1 s Q q => by
    cases hz
    obtain ⟨a, vs, rfl, e, al, _⟩ := h1
    exact ⟨a, _, rfl, SqL.of (by rw [e, al.ints]), q _ _ _ (Xt.refl s) rfl⟩
theorem e_sumU {m : M (List Nat)} (ha : EvC w (ta σ) (lb rNat) m F H) : EvC w (tCB (rSum K) (tCons ta tNil) σ) (fz rNat) (m.bd fun x => .ok x.sum) F H :=
  e_cb1 ha (fun _ => .inl ⟨_, rfl⟩) fun hz h1 s Q q => by
    cases hz
    obtain ⟨a, vs, rfl, e, al, _⟩ := h1
    exact ⟨a, _, rfl, SqL.of (by rw [e, al.nats]), q _ _ _ (Xt.refl s) (by rw [sum_ints]; rfl)⟩
theorem e_list {r : Rl α} [Mono r] {m : M (List α)} (ha : EvC w (ta σ) (lb r) m F H) : EvC w (tCB (rListOf K) (tCons ta tNil) σ) (nw r) m F H := by
  have h : EvC w (tCB (rListOf K) (tCons ta tNil) σ) (nw r) (m.bd fun x => .ok x) F H := e_cb1 ha (fun _ => .inl ⟨_, rfl⟩) fun hz h1 s Q q => by
    cases hz
    obtain ⟨a, vs, rfl, e, al, hz⟩ := h1
    exact ⟨a, vs, rfl, .inl (SqL.of e), fun p hp => let ⟨x1, x2⟩ := nw_new s hp al hz; q _ _ _ x1 x2⟩
  have e : (m.bd fun x => .ok x) = m := by cases m <;> rfl
  rw [e] at h; exact h
theorem e_int {m : M Int} (ha : EvC w (ta σ) (fz rI) m F H) : EvC w (tCB (fun xs H Q => (∃ i, xs = [.int i] ∧ Q (.int i) H) ∨ ∃ k, xs = [.bl k] ∧ Q (.int (if k then 1 else 0)) H) (tCons ta tNil) σ) (fz rI) (m.bd fun x => .ok x) F H :=
  e_cb1 ha (fun _ => .inl ⟨_, rfl⟩) fun hz h1 s Q q => by cases hz; exact .inl ⟨_, by rw [show _ = _ from h1], q _ _ _ (Xt.refl s) rfl⟩
/-! ### joined texts -/
def _root_.SF.M.join (sep : List Nat) (xs : List (List Nat)) : M (List Nat) := M.gd ((xs.map List.length).sum + xs.length * sep.length ≤ 16777216) (.ok (joinL sep xs))
theorem joinL_len (sep : List Nat) : ∀ xs : List (List Nat), (joinL sep xs).length ≤ (xs.map List.length).sum + xs.length * sep.length
  | [] => by simp [joinL]
  | [x] => by simp [joinL]
  | x :: y :: r => by
    have ih := joinL_len sep (y :: r)
    show (x ++ sep ++ joinL sep (y :: r)).length ≤ _
    rw [List.length_append, List.length_append, List.map_cons, List.sum_cons, List.length_cons, Nat.succ_mul]
    omega
theorem Al.qstrs {F : Hp} : ∀ {vs : List V} {xs : List (List Nat)}, Al qS F vs xs → vs = (xs.map S).map V.str
  | _, _, .nil => rfl
  | _, _, .cons h t => by rw [Al.qstrs t, h.1]; rfl
theorem e_join {m : M (List Nat)} {n : M (List (List Nat))} (ha : EvC w (ta σ) (fz qS) m F H) (hb : EvC w (tb σ) (lb qS) n F H) : EvC w (tM1 (rJoin K) ta tb σ) (fz qS) (m.bd fun x => n.bd fun xs => M.join x xs) F H := by
  refine EvC.bind (D := fun (x : V) H (Q : VK) => (∃ a, x = .str a) ∧ tb σ H fun y H2 => rJoin K x [y] H2 Q) (R' := fz qS) ha fun x v F1 H1 F2 H2 e1 e2 hr => ?_
  obtain ⟨rfl, hz⟩ := hr
  have key : EvN w (fun H (Q : VK) => tb σ H fun y H2 => rJoin K (.str (S x)) [y] H2 Q) (fz qS) (n.bd fun xs => M.join x xs) F2 H2 := by
    refine EvN.bind (D := fun (y : V) H (Q : VK) => rJoin K (.str (S x)) [y] H Q) (hb F2 H2 (e1.trans e2)) fun xs u F3 H3 e3 hs => ?_
    by_cases hj : (xs.map List.length).sum + xs.length * x.length ≤ 16777216
    · unfold M.join
      rw [M.gd_pos hj]
      obtain ⟨a, vs, rfl, e, al, _⟩ := hs
      refine fun Q q => ⟨_, a, xs.map S, rfl, rfl, .inl (SqL.of (by rw [e, al.qstrs])), by rw [map_len, List.length_map, S_len]; exact hj, by rw [join_S]; exact q _ _ _ (Xt.refl e3.fh) ⟨rfl, Nat.le_trans (joinL_len x xs) (by rw [sl64]; exact hj)⟩⟩
    · unfold M.join
      rw [M.gd_neg hj]; trivial
  show EvN w _ _ (n.bd fun xs => M.join x xs) F2 H2
  cases hn : (n.bd fun xs => M.join x xs) with
  | bad => trivial
  | exc e => rw [hn] at key; exact fun o Q => ⟨⟨_, rfl⟩, key o _⟩
  | ok y => rw [hn] at key; exact fun Q q => ⟨⟨_, rfl⟩, key Q q⟩
/-! ### fields, calls -/
theorem e_fld {R : Rl α} {r : Rl β} {C : Addr} {f : Str} {g : α → β} {m : M α} (ha : EvC w (ta σ) (fz R) m F H) (hc : Cls K C) (hn : NoAttr K C f)
    (hk : ∀ F v x, R F v x → ∃ a dx fs u, v = .ref a ∧ F a = some (.ins C dx fs) ∧ fs.lookup f = some u ∧ r F u (g x)) : EvC w (tFld K ta f σ) (fz r) (m.bd fun x => .ok (g x)) F H :=
  EvC.last (D := fun (v : V) H (Q : VK) => ∃ a C dx fs u, v = .ref a ∧ H a = some (.ins C dx fs) ∧ Cls K C ∧ NoAttr K C f ∧ fs.lookup f = some u ∧ Q u H) (R' := fz r) ha (fun _ => .inl ⟨_, rfl⟩) fun x y v F1 H1 F2 H2 hz e1 e2 hr Q q => by
    cases hz
    obtain ⟨a, dx, fs, u, rfl, h1, h2, h3⟩ := hk _ _ _ hr
    exact ⟨a, C, dx, fs, u, rfl, e2.fh _ _ h1, hc, hn, h2, q _ _ _ (Xt.refl e2.fh) h3⟩
/-- the promise of a def: its mirror f -/
def Pm {τ : Type} (on : Prop) (cl : Nat → Addr) (Rs : Hp → Hp → Hp → List V → τ → Prop) (rr : R3 γ) (f : τ → M γ) : Sp := fun vs H Q E => ∃ F x, Same F H ∧ Rs H F H vs x ∧ Po ⟨⟨on, E, cl⟩, Q, rr, F, H⟩ (f x)
/-- a call, neither side lets out an error -/
theorem e_call {τ : Type} {Rs : Hp → Hp → Hp → List V → τ → Prop} {rr : R3 γ} [Dn rr] {f : τ → M γ} {cl : Nat → Addr} {E' : XK} {ts : TA} {T : ∀ {γ' : Type}, (τ → M γ') → M γ'} (hw : ¬ w.on) (hs : EvA w ts σ Rs T F H) :
    EvC w (tCall (Pm False cl Rs rr f) [] E' ts σ) rr (T f) F H := fun F0 H0 e0 => by
  refine hs F0 H0 e0 (fun vs H Q => Pm False cl Rs rr f (vs ++ []) H Q E') rr f fun x vs F2 H2 e2 hr => ?_
  cases hf : f x with
  | bad => trivial
  | exc e => exact fun o => absurd o.1 hw
  | ok y =>
    refine fun Q q => ⟨F2, x, e2.fh, by rw [List.append_nil]; exact hr, ?_⟩
    rw [hf]
    exact fun v F' H' e h => q v F' H' e h
/-- .. the one that calls may let out what the called one lets out -/
theorem e_callX {τ : Type} {Rs : Hp → Hp → Hp → List V → τ → Prop} {rr : R3 γ} [Dn rr] {f : τ → M γ} {ts : TA} {T : ∀ {γ' : Type}, (τ → M γ') → M γ'} (hw : w.on) (hs : EvA w ts σ Rs T F H) :
    EvC w (tCall (Pm True w.cl Rs rr f) [] w.E ts σ) rr (T f) F H := fun F0 H0 e0 => by
  refine hs F0 H0 e0 (fun vs H Q => Pm True w.cl Rs rr f (vs ++ []) H Q w.E) rr f fun x vs F2 H2 e2 hr => ?_
  cases hf : f x with
  | bad => trivial
  | exc e =>
    refine fun o Q => ⟨F2, x, e2.fh, by rw [List.append_nil]; exact hr, ?_⟩
    rw [hf]
    exact ⟨trivial, o.2⟩
  | ok y =>
    refine fun Q q => ⟨F2, x, e2.fh, by rw [List.append_nil]; exact hr, ?_⟩
    rw [hf]
    exact fun v F' H' e h => q v F' H' e h
theorem e_meth {τ : Type} {C : Addr} {mn : Str} {R : Rl α} [Mono R] {Rs : Hp → Hp → Hp → List V → τ → Prop} {rr : R3 γ} [Dn rr] {f : α × τ → M γ} {cl : Nat → Addr} {E' : XK} {ts : TA} {m : M α} {T : ∀ {γ' : Type}, (τ → M γ') → M γ'} (hw : ¬ w.on)
    (ha : EvC w (ta σ) (fz R) m F H) (hk : ∀ F v x, R F v x → ∃ a dx fs, v = .ref a ∧ F a = some (.ins C dx fs) ∧ fs.lookup mn = none) (hs : EvA w ts σ Rs T F H) :
    EvC w (tMeth C mn (Pm False cl (rac (fz R) Rs) rr f) [] E' ta ts σ) rr (m.bd fun x => T fun y => f (x, y)) F H := by
  refine EvC.bind (D := fun (x : V) H (Q : VK) => ∃ a dx fs, x = .ref a ∧ H a = some (.ins C dx fs) ∧ fs.lookup mn = none ∧ ts σ H fun vs H2 => Pm False cl (rac (fz R) Rs) rr f (x :: (vs ++ [])) H2 Q E') (R' := rr) ha fun x v F1 H1 F2 H2 e1 e2 hr => ?_
  obtain ⟨a, dx, fs, ev, h1, h2⟩ := hk _ _ _ hr
  have key : EvN w (fun H (Q : VK) => ts σ H fun vs H2 => Pm False cl (rac (fz R) Rs) rr f (v :: (vs ++ [])) H2 Q E') rr (T fun y => f (x, y)) F2 H2 := by
    refine hs F2 H2 (e1.trans e2) (fun vs H (Q : VK) => Pm False cl (rac (fz R) Rs) rr f (v :: (vs ++ [])) H Q E') rr (fun y => f (x, y)) fun y vs F3 H3 e3 hrs => ?_
    cases hf : f (x, y) with
    | bad => trivial
    | exc e => exact fun o => absurd o.1 hw
    | ok z =>
      refine fun Q q => ⟨F3, (x, y), e3.fh, by rw [List.append_nil]; exact ⟨v, vs, rfl, Mono.mono (r := R) e3.ff hr, hrs⟩, ?_⟩
      rw [hf]
      exact fun v F' H' e h => q v F' H' e h
  cases hn : (T fun y => f (x, y)) with
  | bad => trivial
  | exc e => exact fun o => absurd o.1 hw
  | ok y => rw [hn] at key; exact fun Q q => ⟨a, dx, fs, ev, e2.fh _ _ h1, h2, key Q q⟩
theorem e_prop {C : Addr} {R : Rl α} {rr : R3 γ} [Dn rr] {f : α × Unit → M γ} {cl : Nat → Addr} {E' : XK} {m : M α} (hw : ¬ w.on)
    (ha : EvC w (ta σ) (fz R) m F H) (hk : ∀ F v x, R F v x → ∃ a dx fs, v = .ref a ∧ F a = some (.ins C dx fs)) :
    EvC w (tProp C (Pm False cl (rac (fz R) ran) rr f) [] E' ta σ) rr (m.bd fun x => f (x, ())) F H := by
  refine EvC.bind (D := fun (x : V) H (Q : VK) => ∃ a dx fs, x = .ref a ∧ H a = some (.ins C dx fs) ∧ Pm False cl (rac (fz R) ran) rr f (.ref a :: []) H Q E') (R' := rr) ha fun x v F1 H1 F2 H2 e1 e2 hr => ?_
  obtain ⟨a, dx, fs, rfl, h1⟩ := hk _ _ _ hr
  cases hf : f (x, ()) with
  | bad => trivial
  | exc e => exact fun o => absurd o.1 hw
  | ok z =>
    refine fun Q q => ⟨a, dx, fs, rfl, e2.fh _ _ h1, F2, (x, ()), e2.fh, ⟨_, _, rfl, hr, rfl⟩, ?_⟩
    rw [hf]
    exact fun v F' H' e h => q v F' H' e h
/-- the promise of an __init__ whose instance is frozen when it is done -/
def Pi {τ : Type} (on : Prop) (cl : Nat → Addr) (C : Addr) (Rs : Hp → Hp → Hp → List V → τ → Prop) (r : Rl γ) (f : τ → M γ) : Sp := fun vs H Q E => ∃ F H2 p dx us x, vs = .ref p :: us ∧ H2 p = none ∧ H = upd H2 p (.ins C dx []) ∧ Same F H2 ∧ Rs H2 F H2 us x ∧
  match f x with
  | .ok y => ∀ F' H', Xt F H2 F' H' → r F' (.ref p) y → Q .non H'
  | .exc e => Out ⟨on, E, cl⟩ F H2 e
  | .bad => False
theorem e_make {τ : Type} {C : Addr} {Rs : Hp → Hp → Hp → List V → τ → Prop} (hup : Up Rs) (hfl : Fl Rs) {r : Rl γ} {f : τ → M γ} {cl : Nat → Addr} {E' : XK} {ts : TA} {T : ∀ {γ' : Type}, (τ → M γ') → M γ'} (hw : ¬ w.on) (hs : EvA w ts σ Rs T F H) :
    EvC w (tMake C (Pi False cl C Rs r f) [] E' ts σ) (fz r) (T f) F H := fun F0 H0 e0 => by
  refine hs F0 H0 e0 (fun vs H Q => ∀ x dx, H x = none → H dx = none → dx ≠ x → Pi False cl C Rs r f (.ref x :: (vs ++ [])) (upd (upd H dx (.own x)) x (.ins C dx [])) (fun v H2 => v = .non ∧ Q (.ref x) H2) E') (fz r) f fun x vs F2 H2 e2 hr => ?_
  cases hf : f x with
  | bad => trivial
  | exc e => exact fun o => absurd o.1 hw
  | ok y =>
    intro Q q p dx hp hdx hne
    have e3 := (Xt.refl e2.fh).newM hdx (o := .own p)
    refine ⟨F2, upd H2 dx (.own p), p, dx, vs, x, by rw [List.append_nil], by rw [upd_ne hne.symm]; exact hp, rfl, e3.fh, hfl.fl (hup.up e3 hr), ?_⟩
    rw [hf]
    exact fun F' H' e h => ⟨rfl, q _ _ _ (e3.trans e) h⟩
instance {τ : Type} {R : R3 α} {Rs : Hp → Hp → Hp → List V → τ → Prop} [Up R] [Up Rs] : Up (rac R Rs) := ⟨fun e ⟨v, us, e1, h1, h2⟩ => ⟨v, us, e1, Up.up e h1, Up.up e h2⟩⟩
instance {τ : Type} {R : R3 α} {Rs : Hp → Hp → Hp → List V → τ → Prop} [Fl R] [Fl Rs] : Fl (rac R Rs) := ⟨fun ⟨v, us, e1, h1, h2⟩ => ⟨v, us, e1, Fl.fl h1, Fl.fl h2⟩⟩
instance : Up ran := ⟨fun _ h => h⟩
instance : Fl ran := ⟨fun h => h⟩
/-! ### what is walked -/
structure Wk (J : It) (r : Rl α) (xs : List α) (F H : Hp) : Prop where
  ex : ∃ (G : Hp → Prop) (Y : Nat → Hp → V → Hp → Prop), Walk J xs.length G Y ∧ (∀ F' H', Xt F H F' H' → G H') ∧
    ∀ i H' v H'' F', i < xs.length → Same F F' → Same F' H' → Y i H' v H'' → ∃ F'' x, xs[i]? = some x ∧ Xt F' H' F'' H'' ∧ r F'' v x
  sz : xs.length ≤ sizeLine
/-- .. even where the heap changes, so long as what is frozen stays -/
structure WkF (J : It) (r : Rl α) (xs : List α) (F : Hp) : Prop where
  ex : ∃ (G : Hp → Prop) (Y : Nat → Hp → V → Hp → Prop), Walk J xs.length G Y ∧ (∀ F' H', Same F F' → Same F' H' → G H') ∧
    ∀ i H' v H'' F', i < xs.length → Same F F' → Same F' H' → Y i H' v H'' → ∃ F'' x, xs[i]? = some x ∧ Xt F' H' F'' H'' ∧ r F'' v x
  sz : xs.length ≤ sizeLine
theorem WkF.wk {J : It} {r : Rl α} {xs : List α} {F H : Hp} (h : WkF J r xs F) : Wk J r xs F H := by
  obtain ⟨G, Y, h1, h2, h3⟩ := h.ex
  exact ⟨⟨G, Y, h1, fun F' H' e => h2 F' H' e.ff e.fh, h3⟩, h.sz⟩
def iw (r : Rl α) : Hp → Hp → Hp → It → List α → Prop := fun _ F H J xs => Wk J r xs F H
def iwF (r : Rl α) : Hp → Hp → Hp → It → List α → Prop := fun _ F _ J xs => WkF J r xs F
instance {r : Rl α} : Dn (iw r) := ⟨fun _ h => h⟩
instance {r : Rl α} : Dn (iwF r) := ⟨fun _ h => h⟩
theorem i_w {wi : TI} {r : Rl α} {m : M (List α)} (h : EvC w (wi σ) (iwF r) m F H) : EvC w (wi σ) (iw r) m F H := by
  intro F1 H1 e1
  have h1 := h F1 H1 e1
  cases m with
  | bad => trivial
  | exc e => exact h1
  | ok x => exact fun Q q => h1 Q fun v F2 H2 e2 hr => q v F2 H2 e2 hr.wk
theorem wk_list {r : Rl α} {F H : Hp} {a : Addr} {vs : List V} {xs : List α} [Mono r] (e : H a = some (.lst vs)) (al : Al r F vs xs) (hz : xs.length ≤ sizeLine) : Wk (Itl K a) r xs F H :=
  ⟨⟨fun H => SqL K H a vs, YAt vs, by rw [← al.len]; exact walk_list (K := K) (a := a) (xs := vs), fun F' H' x => SqL.of (x.hh _ _ e), fun i H' v H'' F' _ s1 s2 ⟨e1, e2⟩ => by
    subst e1
    obtain ⟨x, hx, hr⟩ := al.get e2
    exact ⟨F', x, hx, Xt.refl s2, Mono.mono (r := r) s1 hr⟩⟩, hz⟩
theorem wkF_list {r : Rl α} {F : Hp} {a : Addr} {vs : List V} {xs : List α} [Mono r] (e : F a = some (.lst vs)) (al : Al r F vs xs) (hz : xs.length ≤ sizeLine) : WkF (Itl K a) r xs F :=
  ⟨⟨fun H => SqL K H a vs, YAt vs, by rw [← al.len]; exact walk_list (K := K) (a := a) (xs := vs), fun F' H' s1 s2 => SqL.of (s2 _ _ (s1 _ _ e)), fun i H' v H'' F' _ s1 s2 ⟨e1, e2⟩ => by
    subst e1
    obtain ⟨x, hx, hr⟩ := al.get e2
    exact ⟨F', x, hx, Xt.refl s2, Mono.mono (r := r) s1 hr⟩⟩, hz⟩
theorem i_list {r : Rl α} [Mono r] {m : M (List α)} (ha : EvC w (ta σ) (lb r) m F H) : EvC w (iList K ta σ) (iw r) m F H := by
  have h : EvC w (iList K ta σ) (iw r) (m.bd fun x => .ok x) F H := EvC.last (D := fun (v : V) H (R : It → Hp → Prop) => ∃ a, v = .ref a ∧ (∃ xs, SqL K H a xs) ∧ R (Itl K a) H) (R' := iw r) ha (fun _ => .inl ⟨_, rfl⟩) fun x y v F1 H1 F2 H2 hz e1 e2 hr Q q => by
    cases hz
    obtain ⟨a, vs, rfl, e, al, hz⟩ := hr
    exact ⟨a, rfl, ⟨vs, SqL.of e⟩, q _ _ _ (Xt.refl e2.fh) (wk_list e al hz)⟩
  have e : (m.bd fun x => .ok x) = m := by cases m <;> rfl
  rw [e] at h; exact h
theorem i_listF {r : Rl α} [Mono r] {m : M (List α)} (ha : EvC w (ta σ) (fz (qL r)) m F H) : EvC w (iList K ta σ) (iwF r) m F H := by
  have h : EvC w (iList K ta σ) (iwF r) (m.bd fun x => .ok x) F H := EvC.last (D := fun (v : V) H (R : It → Hp → Prop) => ∃ a, v = .ref a ∧ (∃ xs, SqL K H a xs) ∧ R (Itl K a) H) (R' := iwF r) ha (fun _ => .inl ⟨_, rfl⟩) fun x y v F1 H1 F2 H2 hz e1 e2 hr Q q => by
    cases hz
    obtain ⟨a, vs, rfl, e, al, hz⟩ := hr
    exact ⟨a, rfl, ⟨vs, SqL.of (e2.fh _ _ e)⟩, q _ _ _ (Xt.refl e2.fh) (wkF_list e al hz)⟩
  have e : (m.bd fun x => .ok x) = m := by cases m <;> rfl
  rw [e] at h; exact h
theorem i_str {m : M (List Nat)} (ha : EvC w (ta σ) (fz qS) m F H) : EvC w (iStr ta σ) (iwF rC) m F H := by
  have h : EvC w (iStr ta σ) (iwF rC) (m.bd fun x => .ok x) F H := EvC.last (D := fun (v : V) H (R : It → Hp → Prop) => ∃ x, v = .str x ∧ R (Its x) H) (R' := iwF rC) ha (fun _ => .inl ⟨_, rfl⟩) fun x y v F1 H1 F2 H2 hz e1 e2 hr Q q => by
    cases hz
    obtain ⟨rfl, hl⟩ := hr
    refine ⟨_, rfl, q _ _ _ (Xt.refl e2.fh) ⟨⟨fun _ => True, fun i H v H' => H' = H ∧ ∃ c, (S x).cps[i]? = some c ∧ v = .str ⟨#[c]⟩, by rw [← S_size]; exact walk_str (z := S x), fun _ _ _ _ => trivial, fun i H' v H'' F' _ s1 s2 ⟨e1, c, hc, ev⟩ => ?_⟩, hl⟩⟩
    subst e1 ev
    exact ⟨F', c, S_get hc, Xt.refl s2, rfl⟩
  have e : (m.bd fun x => .ok x) = m := by cases m <;> rfl
  rw [e] at h; exact h
/-- range(n), range(a, b) of natural numbers -/
theorem wkF_rng {lo n : Nat} {F : Hp} (hl : n ≤ sizeLine) : WkF (Itr (lo : Int) n) rNat (List.range' lo n) F :=
  ⟨⟨fun _ => True, YFn fun i => .int ((lo : Int) + i), by rw [List.length_range']; exact walk_range, fun _ _ _ _ => trivial, fun i H' u H'' F' hi s1 s2 ⟨e1, ev⟩ => by
    subst e1 ev
    rw [List.length_range'] at hi
    exact ⟨F', lo + i, by rw [List.getElem?_range' hi]; simp, Xt.refl s2, by show V.int _ = V.int _; congr 1⟩⟩, by rw [List.length_range']; exact hl⟩
theorem i_rng1 {m : M Nat} (ha : EvC w (ta σ) (fz rNat) m F H) : EvC w (iRng1 (tCons ta tNil) σ) (iwF rNat) (m.bd fun n => M.gd (n ≤ sizeLine) (.ok (List.range' 0 n))) F H :=
  EvC.last (D := fun (v : V) H (R : It → Hp → Prop) => ∃ j : Int, [v] = [.int j] ∧ -(2 ^ 62) ≤ j ∧ j < 2 ^ 62 ∧ R (Itr 0 j.toNat) H) (R' := iwF rNat) ha (fun _ => gd_or) fun x y v F1 H1 F2 H2 hz e1 e2 hr Q q => by
    obtain ⟨hl, rfl⟩ := gd_ok hz
    have hl' := hl
    rw [sl64] at hl'
    refine ⟨_, by rw [show v = _ from hr], by omega, by omega, q _ _ _ (Xt.refl e2.fh) ?_⟩
    rw [Int.toNat_natCast]
    exact wkF_rng (lo := 0) hl
theorem i_rng2 {m n : M Nat} (ha : EvC w (ta σ) (fz rNat) m F H) (hb : EvC w (tb σ) (fz rNat) n F H) : EvC w (iRng2 (tCons ta (tCons tb tNil)) σ) (iwF rNat) (m.bd fun a => n.bd fun b => M.gd (a ≤ sizeLine ∧ b ≤ sizeLine) (.ok (List.range' a (b - a)))) F H := by
  refine EvC.bind (D := fun (v : V) H (R : It → Hp → Prop) => tb σ H fun u H2 => ∃ i j : Int, [v, u] = [.int i, .int j] ∧ (-(2 ^ 62) ≤ i ∧ i < 2 ^ 62 ∧ -(2 ^ 62) ≤ j ∧ j < 2 ^ 62) ∧ R (Itr i (j - i).toNat) H2) (R' := iwF rNat) ha fun x v F1 H1 F2 H2 e1 e2 hr => ?_
  refine EvC.last (D := fun (u : V) H (R : It → Hp → Prop) => ∃ i j : Int, [v, u] = [.int i, .int j] ∧ (-(2 ^ 62) ≤ i ∧ i < 2 ^ 62 ∧ -(2 ^ 62) ≤ j ∧ j < 2 ^ 62) ∧ R (Itr i (j - i).toNat) H) (R' := iwF rNat) (hb.up (e1.trans e2)) (fun _ => gd_or) (fun y z u F3 H3 F4 H4 hz e3 e4 hs Q q => ?_) F2 H2 (Xt.refl e2.fh)
  obtain ⟨⟨hl, hl2⟩, rfl⟩ := gd_ok hz
  have hl' := hl
  have hl2' := hl2
  rw [sl64] at hl' hl2'
  refine ⟨_, _, by rw [show v = _ from hr, show u = _ from hs], ⟨by omega, by omega, by omega, by omega⟩, q _ _ _ (Xt.refl e4.fh) ?_⟩
  rw [show ((y : Int) - (x : Int)).toNat = y - x by omega]
  exact wkF_rng (lo := x) (by omega)
/-- pairs of the places and the items -/
def zipIx {α : Type} (xs : List α) : List (Nat × α) := xs.zipIdx.map fun p => (p.2, p.1)
theorem zipIx_len {α : Type} (xs : List α) : (zipIx xs).length = xs.length := by simp [zipIx]
theorem zipIx_get {α : Type} {xs : List α} {i : Nat} {x : α} (h : xs[i]? = some x) : (zipIx xs)[i]? = some (i, x) := by
  unfold zipIx
  rw [List.getElem?_map, List.getElem?_zipIdx, h]
  simp
theorem i_enum {r : Rl α} [Mono r] {m : M (List α)} (ha : EvC w (ta σ) (fz (qL r)) m F H) : EvC w (iEnum K (tCons ta tNil) σ) (iwF (rP rNat r)) (m.bd fun xs => .ok (zipIx xs)) F H :=
  EvC.last (D := fun (v : V) H (R : It → Hp → Prop) => ∃ a xs, [v] = [.ref a] ∧ SqL K H a xs ∧ R (Ite K a) H) (R' := iwF (rP rNat r)) ha (fun _ => .inl ⟨_, rfl⟩) fun x y v F1 H1 F2 H2 hz e1 e2 hr Q q => by
    cases hz
    obtain ⟨a, vs, rfl, e, al, hz⟩ := hr
    refine ⟨a, vs, rfl, SqL.of (e2.fh _ _ e), q _ _ _ (Xt.refl e2.fh) ⟨⟨fun H => SqL K H a vs, YPair (fun i => some (.int (i : Nat))) (fun i => vs[i]?), by rw [zipIx_len, ← al.len]; exact walk_enum, fun F' H' s1 s2 => SqL.of (s2 _ _ (s1 _ _ e)), fun i H' v H'' F' _ s1 s2 hy => ?_⟩, by rw [zipIx_len]; exact hz⟩⟩
    obtain ⟨T, u1, u2, rfl, hT, rfl, h1, h2⟩ := hy
    cases h1
    obtain ⟨x1, hx, hr⟩ := al.get h2
    have e3 := (Xt.refl s2).newF hT (o := .tup [.int (i : Nat), u2])
    exact ⟨_, _, zipIx_get hx, e3, T, _, u2, rfl, upd_same, rfl, Mono.mono (r := r) (s1.trans e3.ff) hr⟩
/-! ### comprehensions -/
theorem lc_step {p : α → M Bool} {f : α → M β} {x : α} {r : List α} : M.lc p f (x :: r) = (p x).nox.bd fun c => if c = true then (f x).nox.bd fun y => (M.lc p f r).bd fun ys => .ok (y :: ys) else M.lc p f r := rfl
theorem lc_not_exc {p : α → M Bool} {f : α → M β} : ∀ (xs : List α) (e : Ex), M.lc p f xs ≠ .exc e
  | [], e => by intro h; cases h
  | x :: r, e => by
    rw [lc_step]
    cases p x with
    | bad => intro h; cases h
    | exc e => intro h; cases h
    | ok c =>
      show (if c = true then _ else _) ≠ _
      cases c with
      | false => rw [if_neg Bool.false_ne_true]; exact lc_not_exc r e
      | true =>
        rw [if_pos rfl]
        cases f x with
        | bad => intro h; cases h
        | exc e => intro h; cases h
        | ok y =>
          show (M.lc p f r).bd _ ≠ _
          cases h : M.lc p f r with
          | bad => intro h; cases h
          | exc e' => exact absurd h (lc_not_exc r e')
          | ok ys => intro h; cases h
theorem e_lc {wi : TI} {g : TG} {tt : TT} {te : TE} {vs : List Nat} {r : Rl α} {r' : Rl β} [Mono r'] {m : M (List α)} {p : α → M Bool} {f : α → M β} {w' : Xw} (hi : EvC w (wi σ) (iw r) m F H) (Tg : Hp → α → L2.St → Prop)
    (hg : ∀ {x v F4 H4} (Q : L2.St → Hp → Prop), Same F4 H4 → r F4 v x → (∀ σ2, wipe σ2 vs = wipe σ vs → Tg F4 x σ2 → Q σ2 H4) → g v (wipe σ vs) H4 Q)
    (hp : ∀ x σ2 F4 H4, Xt F H F4 H4 → Tg F4 x σ2 → EvC w' (tt σ2) teq (p x) F4 H4)
    (hf : ∀ x σ2 F4 H4, Xt F H F4 H4 → Tg F4 x σ2 → EvC w' (te σ2) (fz r') (f x) F4 H4) : EvC w (tLc wi g tt te vs σ) (nw r') (m.bd fun xs => M.lc p f xs) F H := by
  refine EvC.bind (D := fun J H1 (Q : VK) => ∀ D, H1 D = none → ∃ W : Nat → Nat → Hp → Prop, (∃ m, W 0 m (upd H1 D (.lst []))) ∧ ∀ i m H, W i m H →
    (J.stop i H ∧ Q (.ref D) H) ∨ (J.go i H ∧ ∃ Nx : Hp → Prop, (∀ H', Nx H' → ∃ m', m' < m ∧ W (i + 1) m' H') ∧ ∀ x H', J.yld i H x H' → g x (wipe σ vs) H' fun σ2 H2 => wipe σ2 vs = wipe σ vs ∧ tt σ2 H2 fun b H3 =>
      if b = true then te σ2 H3 fun y H4 => ∃ acc, H4 D = some (.lst acc) ∧ acc.length < sizeLine ∧ Nx (upd H4 D (.lst (acc ++ [y]))) else Nx H3)) (R' := nw r') hi fun xs J F1 H1 F2 H2 e1 e2 hw => ?_
  obtain ⟨⟨G, Y, wk, hG, hY⟩, hz⟩ := hw
  have e12 := e1.trans e2
  cases hm : M.lc p f xs with
  | bad => trivial
  | exc e => exact absurd hm (lc_not_exc xs e)
  | ok zs =>
    intro Q q D hD
    refine lc_it wk (fun i H' => ∃ F' ws ys, Xt F2 H2 F' H' ∧ F' D = none ∧ H' D = some (.lst ws) ∧ Al r' F' ws ys ∧ ys.length ≤ i ∧ ∃ rs, M.lc p f (xs.drop i) = .ok rs ∧ zs = ys ++ rs) ?_ (fun i H' _ h => ?_) ?_ ?_
    · exact ⟨F2, [], [], (Xt.refl e2.fh).newM hD, e2.fh.free hD, upd_same, .nil, Nat.le_refl _, zs, hm, rfl⟩
    · obtain ⟨F', ws, ys, e, _⟩ := h
      exact hG F' H' e
    · rintro i v H4 H5 hi ⟨F4, ws, ys, e4, f4, hD4, al4, hl4, rs, hrs, ez⟩ hy
      obtain ⟨F5, x, hx, e5, hr⟩ := hY i H4 v H5 F4 hi e4.ff e4.fh hy
      have f5 : F5 D = none := e5.nf D (by rw [hD4]; trivial) f4
      have hD5 := e5.hh _ _ hD4
      have hdrop : xs.drop i = x :: xs.drop (i + 1) := by
        rw [List.drop_eq_getElem_cons hi]
        congr 1
        rw [List.getElem?_eq_getElem hi] at hx
        exact Option.some.inj hx
      rw [hdrop, lc_step] at hrs
      refine hg _ e5.fh hr fun σ2 hw2 ht => ⟨hw2, ?_⟩
      have hp1 := hp x σ2 F5 H5 ((e12.trans e4).trans e5) ht F5 H5 (Xt.refl e5.fh)
      have hf1 := hf x σ2 F5 H5 ((e12.trans e4).trans e5) ht
      cases hpx : p x with
      | bad => rw [hpx] at hrs; cases hrs
      | exc e => rw [hpx] at hrs; cases hrs
      | ok c =>
        rw [hpx] at hrs hp1
        refine hp1 _ fun b F6 H6 e6 hb => ?_
        have hb : b = c := hb
        subst hb
        have hrs : (if b = true then (f x).nox.bd fun y => (M.lc p f (xs.drop (i + 1))).bd fun ys => .ok (y :: ys) else M.lc p f (xs.drop (i + 1))) = .ok rs := hrs
        have f6 : F6 D = none := e6.nf D (by rw [hD5]; trivial) f5
        have hD6 := e6.hh _ _ hD5
        cases b with
        | false =>
          rw [if_neg Bool.false_ne_true] at hrs
          exact iteF ⟨F6, ws, ys, (e4.trans e5).trans e6, f6, hD6, al4.mono (e5.ff.trans e6.ff), by omega, rs, hrs, ez⟩
        | true =>
          rw [if_pos rfl] at hrs
          have hf2 := hf1 F6 H6 e6
          cases hfx : f x with
          | bad => rw [hfx] at hrs; cases hrs
          | exc e => rw [hfx] at hrs; cases hrs
          | ok y =>
            rw [hfx] at hrs hf2
            have hrs : ((M.lc p f (xs.drop (i + 1))).bd fun ys => .ok (y :: ys)) = .ok rs := hrs
            cases hl : M.lc p f (xs.drop (i + 1)) with
            | bad => rw [hl] at hrs; cases hrs
            | exc e => rw [hl] at hrs; cases hrs
            | ok ts =>
              rw [hl] at hrs
              have hrs : M.ok (y :: ts) = .ok rs := hrs
              injection hrs with hrs
              refine iteT (hf2 _ fun u F7 H7 e7 hu => ?_)
              have f7 : F7 D = none := e7.nf D (by rw [hD6]; trivial) f6
              have hD7 := e7.hh _ _ hD6
              have e47 := ((e4.trans e5).trans e6).trans e7
              refine ⟨ws, hD7, by rw [al4.len]; omega, F7, ws ++ [u], ys ++ [y], e47.set hD f7, f7, upd_same, (al4.mono ((e5.ff.trans e6.ff).trans e7.ff)).snoc hu, by rw [List.length_append, List.length_singleton]; omega, ts, rfl, ?_⟩
              rw [ez, ← hrs, List.append_assoc]; rfl
    · rintro H' ⟨F', ws, ys, e, fD, hD', al, hl, rs, hrs, ez⟩
      rw [List.drop_length] at hrs
      injection hrs with hrs
      subst hrs
      rw [List.append_nil] at ez
      subst ez
      exact q _ _ _ e ⟨D, ws, rfl, hD, fD, hD', al, by omega⟩
theorem t_yes : EvC w (tYes σ) teq (.ok true) F H := fun F1 H1 e Q q => q _ _ _ (Xt.refl e.fh) rfl
end
end SF
namespace SF
open PySem PySem.Spec PyProof.Rows L2
def M.snoc {α : Type} (xs : List α) (x : α) : M (List α) := M.gd (xs.length < sizeLine) (.ok (xs ++ [x]))
def M.ins {α : Type} (xs : List α) (i : Nat) (x : α) : M (List α) := M.gd (xs.length < sizeLine ∧ i ≤ sizeLine) (.ok (xs.take i ++ [x] ++ xs.drop i))
def M.put {κ α : Type} [DecidableEq κ] (m : List (κ × α)) (k : κ) (x : α) : M (List (κ × α)) := M.gd (m.length < sizeLine) (.ok (aPut m k x))
def M.set {α : Type} (xs : List α) (i : Nat) (x : α) : M (List α) := M.gd (i < xs.length) (.ok (xs.set i x))
section
variable {β : Type} {c : Cxt β} {σ : L2.St} {F H : Hp} {K : PySem.W.Frag} {α γ : Type} {te tl : TE} {u : L2.TS} {D : Ends}
/-! ### an if -/
theorem Po.bd {m : M α} {k : α → M β} (h : Po c (m.bd k)) : (∃ x, m = .ok x ∧ Po c (k x)) ∨ ∃ e, m = .exc e ∧ Out c.w c.F0 c.H0 e := by
  cases m with
  | ok x => exact .inl ⟨x, rfl, h⟩
  | exc e => exact .inr ⟨e, rfl, h⟩
  | bad => exact h.elim
theorem Po.gd {p : Prop} [Decidable p] {m : M β} (h : Po c (M.gd p m)) : p ∧ Po c m := by
  unfold M.gd at h
  split at h
  · rename_i q; exact ⟨q, h⟩
  · exact h.elim
theorem sq_if {tt : TT} {t t' : L2.TS} {m : M Bool} {A B : M β} (ev : EvC c.w (tt σ) teq m F H) (e0 : Xt c.F0 c.H0 F H) (h : Po c (M.ite m A B))
    (ht : ∀ F1 H1, Xt F H F1 H1 → Po c A → t { D with nx := u D } σ H1) (hf : ∀ F1 H1, Xt F H F1 H1 → Po c B → t' { D with nx := u D } σ H1) : tSeq (tIfS tt t t') u D σ H := by
  refine EvC.run (C := tt σ) ev e0 h fun x b F1 H1 e1 hb hk => ?_
  have hb : b = x := hb
  subst hb
  cases b with
  | true => exact iteT (ht F1 H1 e1 hk)
  | false => exact iteF (hf F1 H1 e1 hk)
/-- two ways that join -/
theorem sq_ifj {S : Type} {tt : TT} {t t' : L2.TS} {m : M Bool} {J : S → M β} {A B : (S → M β) → M β} (ev : EvC c.w (tt σ) teq m F H) (e0 : Xt c.F0 c.H0 F H) (h : Po c (M.jn J fun j => M.ite m (A j) (B j))) (N : S → Hp → L2.St → Hp → Prop)
    (ht : ∀ (j : S → M β) (nx : L2.St → Hp → Prop) F1 H1, (∀ s F' σ' H', N s F' σ' H' → Po c (j s) → nx σ' H') → Xt F H F1 H1 → Po c (A j) → t { D with nx := nx } σ H1)
    (hf : ∀ (j : S → M β) (nx : L2.St → Hp → Prop) F1 H1, (∀ s F' σ' H', N s F' σ' H' → Po c (j s) → nx σ' H') → Xt F H F1 H1 → Po c (B j) → t' { D with nx := nx } σ H1)
    (hd : ∀ s F' σ' H', N s F' σ' H' → Po c (J s) → u D σ' H') : tSeq (tIfS tt t t') u D σ H := by
  have h : Po c (M.ite m (A J) (B J)) := h
  refine EvC.run (C := tt σ) ev e0 h fun x b F1 H1 e1 hb hk => ?_
  have hb : b = x := hb
  subst hb
  cases b with
  | true => exact iteT (ht J (u D) F1 H1 hd e1 hk)
  | false => exact iteF (hf J (u D) F1 H1 hd e1 hk)
/-! ### stores -/
theorem sq_set {i : Nat} {R : R3 α} {m : M α} {k : α → M β} (ev : EvC c.w (te σ) R m F H) (e0 : Xt c.F0 c.H0 F H) (h : Po c (m.bd k)) (σ' : V → L2.St) (hσ : ∀ v, σ.set i (some v) = σ' v)
    (go : ∀ x v F1 H1, Xt F H F1 H1 → Xt c.F0 c.H0 F1 H1 → R H F1 H1 v x → Po c (k x) → u D (σ' v) H1) : tSeq (tAsg te (gName i)) u D σ H := by
  refine EvC.run (C := te σ) ev e0 h fun x v F1 H1 e1 hv hk => ?_
  show u D (σ.set i (some v)) H1
  rw [hσ]
  exact go x v F1 H1 e1 (e0.trans e1) hv hk
theorem sq_drop {R : R3 α} {m : M α} {k : α → M β} (ev : EvC c.w (te σ) R m F H) (e0 : Xt c.F0 c.H0 F H) (h : Po c (m.bd k))
    (go : ∀ x v F1 H1, Xt F H F1 H1 → Xt c.F0 c.H0 F1 H1 → R H F1 H1 v x → Po c (k x) → u D σ H1) : tSeq (tDrop te) u D σ H :=
  EvC.run (C := te σ) ev e0 h fun x v F1 H1 e1 hv hk => go x v F1 H1 e1 (e0.trans e1) hv hk
/-- a new list that will change -/
theorem sq_new {i : Nat} {r : Rl α} {m : M (List α)} {k : List α → M β} (ev : EvC c.w (te σ) (nw r) m F H) (e0 : Xt c.F0 c.H0 F H) (h : Po c (m.bd k)) (σ' : V → L2.St) (hσ : ∀ v, σ.set i (some v) = σ' v)
    (go : ∀ x p vs F1 H1, Xt F H F1 H1 → Xt c.F0 c.H0 F1 H1 → H p = none → Own c.H0 F1 H1 p (.lst vs) → Al r F1 vs x → x.length ≤ sizeLine → Po c (k x) → u D (σ' (.ref p)) H1) : tSeq (tAsg te (gName i)) u D σ H :=
  sq_set ev e0 h σ' hσ fun x v F1 H1 e1 e2 ⟨p, vs, ev, hp, hf, hh, al, hz⟩ hk => by
    subst ev
    exact go x p vs F1 H1 e1 e2 hp ⟨e0.free hp, hf, hh, trivial⟩ al hz hk
section
variable {κ : Type} [DecidableEq κ] {enc : κ → Key} {encT : κ → List Key} {r : Rl α} {k : List (κ × α) → M β} {i : Nat}
theorem sq_newD (e0 : Xt c.F0 c.H0 F H) (h : Po c ((M.ok []).bd k)) (σ' : V → L2.St) (hσ : ∀ v, σ.set i (some v) = σ' v)
    (go : ∀ p F1 H1, Xt F H F1 H1 → Xt c.F0 c.H0 F1 H1 → H p = none → Own c.H0 F1 H1 p (.dK []) → AD enc r F1 [] [] → ([] : List (κ × α)).length ≤ sizeLine → Po c (k []) → u D (σ' (.ref p)) H1) : tSeq (tAsg tDNewK (gName i)) u D σ H := fun p hp => by
  show u D (σ.set i (some (.ref p))) _
  rw [hσ]
  have e1 := (Xt.refl e0.fh).newM hp (o := .dK [])
  exact go p F _ e1 (e0.trans e1) hp ⟨e0.free hp, e0.fh.free hp, upd_same, trivial⟩ .nil (Nat.zero_le _) h
theorem sq_newT (e0 : Xt c.F0 c.H0 F H) (h : Po c ((M.ok []).bd k)) (σ' : V → L2.St) (hσ : ∀ v, σ.set i (some v) = σ' v)
    (go : ∀ p F1 H1, Xt F H F1 H1 → Xt c.F0 c.H0 F1 H1 → H p = none → Own c.H0 F1 H1 p (.dT []) → AD encT r F1 [] [] → ([] : List (κ × α)).length ≤ sizeLine → Po c (k []) → u D (σ' (.ref p)) H1) : tSeq (tAsg tDNewT (gName i)) u D σ H := fun p hp => by
  show u D (σ.set i (some (.ref p))) _
  rw [hσ]
  have e1 := (Xt.refl e0.fh).newM hp (o := .dT [])
  exact go p F _ e1 (e0.trans e1) hp ⟨e0.free hp, e0.fh.free hp, upd_same, trivial⟩ .nil (Nat.zero_le _) h
end
/-- a, b = e -/
theorem sq_unp2 {i j : Nat} {r : Rl α} {s : Rl γ} {m : M (α × γ)} {k : α × γ → M β} (ev : EvC c.w (te σ) (fz (rP r s)) m F H) (e0 : Xt c.F0 c.H0 F H) (h : Po c (m.bd k)) (σ' : V → V → L2.St) (hσ : ∀ v w, (σ.set i (some v)).set j (some w) = σ' v w)
    (go : ∀ x y v v' F1 H1, Xt F H F1 H1 → Xt c.F0 c.H0 F1 H1 → r F1 v x → s F1 v' y → Po c (k (x, y)) → u D (σ' v v') H1) : tSeq (tAsg te (gTup K 2 (gCons (gName i) (gCons (gName j) gNil)))) u D σ H := by
  refine EvC.run (C := te σ) ev e0 h fun x v F1 H1 e1 ⟨a, v1, v2, ea, h0, h1, h2⟩ hk => ?_
  refine ⟨a, _, ea, SqT.of (e1.fh _ _ h0), rfl, _, _, rfl, _, _, rfl, rfl, ?_⟩
  show u D ((σ.set i (some v1)).set j (some v2)) H1
  rw [hσ]
  exact go x.1 x.2 v1 v2 F1 H1 e1 (e0.trans e1) h1 h2 hk
theorem sq_unp3 {δ : Type} {i j l : Nat} {r : Rl α} {s : Rl γ} {t : Rl δ} {m : M (α × γ × δ)} {k : α × γ × δ → M β} (ev : EvC c.w (te σ) (fz (qT3 r s t)) m F H) (e0 : Xt c.F0 c.H0 F H) (h : Po c (m.bd k)) (σ' : V → V → V → L2.St) (hσ : ∀ v w y, ((σ.set i (some v)).set j (some w)).set l (some y) = σ' v w y)
    (go : ∀ x y z v v' v'' F1 H1, Xt F H F1 H1 → Xt c.F0 c.H0 F1 H1 → r F1 v x → s F1 v' y → t F1 v'' z → Po c (k (x, y, z)) → u D (σ' v v' v'') H1) : tSeq (tAsg te (gTup K 3 (gCons (gName i) (gCons (gName j) (gCons (gName l) gNil))))) u D σ H := by
  refine EvC.run (C := te σ) ev e0 h fun x v F1 H1 e1 ⟨a, v1, v2, v3, ea, h0, h1, h2, h3⟩ hk => ?_
  refine ⟨a, _, ea, SqT.of (e1.fh _ _ h0), rfl, _, _, rfl, _, _, rfl, _, _, rfl, rfl, ?_⟩
  show u D (((σ.set i (some v1)).set j (some v2)).set l (some v3)) H1
  rw [hσ]
  exact go x.1 x.2.1 x.2.2 v1 v2 v3 F1 H1 e1 (e0.trans e1) h1 h2 h3 hk
/-- x += e -/
theorem sq_aug {i : Nat} {m : M Int} {x0 : Int} {k : Int → M β} (hx : σ[i]? = some (some (.int x0))) (ev : EvC c.w (te σ) (fz rI) m F H) (e0 : Xt c.F0 c.H0 F H) (h : Po c (m.bd fun y => (M.ok (x0 + y)).bd k)) (σ' : V → L2.St) (hσ : ∀ v, σ.set i (some v) = σ' v)
    (go : ∀ x v F1 H1, Xt F H F1 H1 → Xt c.F0 c.H0 F1 H1 → rI F1 v x → Po c (k x) → u D (σ' v) H1) : tSeq (tAug i te (ipI fun i j => i + j)) u D σ H := by
  refine ⟨_, hx, EvC.run (C := te σ) ev e0 h fun y v F1 H1 e1 hv hk => ⟨_, _, rfl, hv, ?_⟩⟩
  show u D (σ.set i (some (.int (x0 + y)))) H1
  rw [hσ]
  exact go (x0 + y) _ F1 H1 e1 (e0.trans e1) rfl hk
theorem sq_augU {i : Nat} {m : M Nat} {x0 : Nat} {k : Nat → M β} (hx : σ[i]? = some (some (.int (x0 : Int)))) (ev : EvC c.w (te σ) (fz rNat) m F H) (e0 : Xt c.F0 c.H0 F H) (h : Po c (m.bd fun y => (M.ok (x0 + y)).bd k)) (σ' : V → L2.St) (hσ : ∀ v, σ.set i (some v) = σ' v)
    (go : ∀ x v F1 H1, Xt F H F1 H1 → Xt c.F0 c.H0 F1 H1 → rNat F1 v x → Po c (k x) → u D (σ' v) H1) : tSeq (tAug i te (ipI fun i j => i + j)) u D σ H := by
  refine ⟨_, hx, EvC.run (C := te σ) ev e0 h fun y v F1 H1 e1 hv hk => ⟨_, _, rfl, hv, ?_⟩⟩
  show u D (σ.set i (some (.int ((x0 : Int) + (y : Int))))) H1
  rw [hσ]
  exact go (x0 + y) _ F1 H1 e1 (e0.trans e1) rfl hk
/-! ### lists that change -/
section
variable {r : Rl α} [Mono r] {a : Addr} {vs : List V} {xs : List α} {i : Nat}
theorem sq_append {m : M α} {k : List α → M β} (w : Own c.H0 F H a (.lst vs)) (al : Al r F vs xs) (hσ : σ[i]? = some (some (.ref a))) (ev : EvC c.w (te σ) (fz r) m F H) (e0 : Xt c.F0 c.H0 F H) (h : Po c (m.bd fun x => (M.snoc xs x).bd k))
    (go : ∀ ys us F1 H1, Xt c.F0 c.H0 F1 H1 → Chg a (.lst us) F H F1 H1 → Own c.H0 F1 H1 a (.lst us) → Al r F1 us ys → ys.length ≤ sizeLine → Po c (k ys) → u D σ H1) : tSeq (tDrop (tBM K "list" rAppend (tVar i) (tCons te tNil))) u D σ H := by
  refine ⟨_, hσ, .inl ⟨rfl, _, SqL.of w.at_⟩, EvC.run (C := te σ) ev e0 h fun x v F1 H1 e1 hv hk => ?_⟩
  rcases Po.bd hk with ⟨ys, hy, hk⟩ | ⟨e, he, _⟩
  · obtain ⟨hl, rfl⟩ := gd_ok hy
    have w1 := w.up e1
    obtain ⟨c1, c2⟩ := w.chg e0 e1 (o := .lst (vs ++ [v]))
    exact ⟨a, vs, v, rfl, rfl, w1.at_, by rw [al.len]; exact hl, go _ _ F1 _ c1 c2 (w.set c2 trivial) ((al.mono e1.ff).snoc hv) (by rw [List.length_append, List.length_singleton]; omega) hk⟩
  · unfold M.snoc M.gd at he; split at he <;> cases he
theorem sq_extend {m : M (List α)} {k : List α → M β} (w : Own c.H0 F H a (.lst vs)) (al : Al r F vs xs) (hσ : σ[i]? = some (some (.ref a))) (ev : EvC c.w (te σ) (lb r) m F H) (e0 : Xt c.F0 c.H0 F H) (h : Po c (m.bd fun x => (M.cat xs x).bd k))
    (go : ∀ ys us F1 H1, Xt c.F0 c.H0 F1 H1 → Chg a (.lst us) F H F1 H1 → Own c.H0 F1 H1 a (.lst us) → Al r F1 us ys → ys.length ≤ sizeLine → Po c (k ys) → u D σ H1) : tSeq (tDrop (tBM K "list" rExtend (tVar i) (tCons te tNil))) u D σ H := by
  refine ⟨_, hσ, .inl ⟨rfl, _, SqL.of w.at_⟩, EvC.run (C := te σ) ev e0 h fun x v F1 H1 e1 ⟨b, ws, eb, hb, alb, _⟩ hk => ?_⟩
  rcases Po.bd hk with ⟨ys, hy, hk⟩ | ⟨e, he, _⟩
  · obtain ⟨hl, rfl⟩ := gd_ok hy
    subst eb
    have w1 := w.up e1
    obtain ⟨c1, c2⟩ := w.chg e0 e1 (o := .lst (vs ++ ws))
    exact ⟨a, b, vs, ws, rfl, rfl, w1.at_, hb, by rw [al.len, alb.len]; exact hl, go _ _ F1 _ c1 c2 (w.set c2 trivial) ((al.mono e1.ff).app alb) (by rw [List.length_append]; exact hl) hk⟩
  · unfold M.cat M.gd at he; split at he <;> cases he
theorem Al.tk : ∀ {F : Hp} {vs : List V} {xs : List α} (n : Nat), Al r F vs xs → Al r F (vs.take n) (xs.take n)
  | _, _, _, 0, _ => .nil
  | _, _, _, _ + 1, .nil => .nil
  | _, _, _, n + 1, .cons h t => .cons h (Al.tk n t)
theorem Al.dr : ∀ {F : Hp} {vs : List V} {xs : List α} (n : Nat), Al r F vs xs → Al r F (vs.drop n) (xs.drop n)
  | _, _, _, 0, h => h
  | _, _, _, _ + 1, .nil => .nil
  | _, _, _, n + 1, .cons h t => Al.dr n t
theorem Al.st {F : Hp} {v : V} {x : α} (hx : r F v x) : ∀ {vs : List V} {xs : List α} (n : Nat), Al r F vs xs → Al r F (vs.set n v) (xs.set n x)
  | _, _, _, .nil => .nil
  | _, _, 0, .cons _ t => .cons hx t
  | _, _, n + 1, .cons h t => .cons h (Al.st hx n t)
theorem sq_insert {ti : TE} {m : M α} {n : M Nat} {k : List α → M β} (w : Own c.H0 F H a (.lst vs)) (al : Al r F vs xs) (hσ : σ[i]? = some (some (.ref a))) (evi : EvC c.w (ti σ) (fz rNat) n F H) (ev : EvC c.w (te σ) (fz r) m F H) (e0 : Xt c.F0 c.H0 F H) (h : Po c (n.bd fun j => m.bd fun x => (M.ins xs j x).bd k))
    (go : ∀ ys us F1 H1, Xt c.F0 c.H0 F1 H1 → Chg a (.lst us) F H F1 H1 → Own c.H0 F1 H1 a (.lst us) → Al r F1 us ys → ys.length ≤ sizeLine → Po c (k ys) → u D σ H1) :
    tSeq (tDrop (tBM K "list" (fun x vs H Q => ∃ (l : Addr) (xs : List V) (i : Int) (y : V), x = .ref l ∧ vs = [.int i, y] ∧ H l = some (.lst xs) ∧ xs.length < sizeLine ∧ 0 ≤ i ∧ i < 2 ^ 63 ∧
    Q .non (upd H l (.lst (xs.take i.toNat ++ [y] ++ xs.drop i.toNat)))) (tVar i) (tCons ti (tCons te tNil)))) u D σ H := by
  refine ⟨_, hσ, .inl ⟨rfl, _, SqL.of w.at_⟩, EvC.run (C := ti σ) evi e0 h fun j v1 F1 H1 e1 hv1 hk => ?_⟩
  refine EvC.run (C := te σ) (ev.up e1) (e0.trans e1) hk fun x v F2 H2 e2 hv hk => ?_
  have e12 := e1.trans e2
  rcases Po.bd hk with ⟨ys, hy, hk⟩ | ⟨e, he, _⟩
  · obtain ⟨⟨hl, hj⟩, rfl⟩ := gd_ok hy
    have w1 := w.up e12
    obtain ⟨c1, c2⟩ := w.chg e0 e12 (o := .lst (vs.take j ++ [v] ++ vs.drop j))
    have hj' := hj
    rw [sl64] at hj'
    have al2 := al.mono e12.ff
    refine ⟨a, vs, j, v, rfl, by rw [show v1 = _ from hv1], w1.at_, by rw [al.len]; exact hl, by omega, by omega, ?_⟩
    rw [Int.toNat_natCast]
    exact go _ _ F2 _ c1 c2 (w.set c2 trivial) (((Al.tk j al2).snoc hv).app (Al.dr j al2)) (by rw [List.length_append, List.length_append, List.length_take, List.length_drop, List.length_singleton]; omega) hk
  · unfold M.ins M.gd at he; split at he <;> cases he
/-- xs[j] = e -/
theorem sq_setL {ti : TE} {m : M α} {n : M Nat} {k : List α → M β} (w : Own c.H0 F H a (.lst vs)) (al : Al r F vs xs) (hz : xs.length ≤ sizeLine) (hσ : σ[i]? = some (some (.ref a))) (ev : EvC c.w (te σ) (fz r) m F H) (evi : EvC c.w (ti σ) (fz rNat) n F H) (e0 : Xt c.F0 c.H0 F H) (h : Po c (m.bd fun x => n.bd fun j => (M.set xs j x).bd k))
    (go : ∀ ys us F1 H1, Xt c.F0 c.H0 F1 H1 → Chg a (.lst us) F H F1 H1 → Own c.H0 F1 H1 a (.lst us) → Al r F1 us ys → ys.length ≤ sizeLine → Po c (k ys) → u D σ H1) : tSeq (tAsg te (gSub (tVar i) ti L2.rSetL)) u D σ H := by
  refine EvC.run (C := te σ) ev e0 h fun x v F1 H1 e1 hv hk => ⟨_, hσ, ?_⟩
  refine EvC.run (C := ti σ) (evi.up e1) (e0.trans e1) hk fun j v1 F2 H2 e2 hv1 hk => ?_
  have e12 := e1.trans e2
  rcases Po.bd hk with ⟨ys, hy, hk⟩ | ⟨e, he, _⟩
  · obtain ⟨hl, rfl⟩ := gd_ok hy
    have w1 := w.up e12
    obtain ⟨c1, c2⟩ := w.chg e0 e12 (o := .lst (vs.set j v))
    have al2 := al.mono e12.ff
    refine ⟨a, vs, j, j, rfl, hv1, w1.at_, ?_, go _ _ F2 _ c1 c2 (w.set c2 trivial) (Al.st (Mono.mono (r := r) e2.ff hv) j al2) (by rw [List.length_set]; exact hz) hk⟩
    unfold ixN
    rw [al.len, if_pos (by omega), if_pos (by omega), Int.toNat_natCast]
  · unfold M.set M.gd at he; split at he <;> cases he
end
/-! d[k] = e -/
section
variable {κ : Type} [DecidableEq κ] {enc : κ → Key} {encT : κ → List Key} {r : Rl α} [Mono r] {rk : Rl κ} [Mono rk] {k : List (κ × α) → M β} {i : Nat} {a : Addr} {d : List (κ × α)} {m : M α} {n : M κ} {ty : TE}
theorem sq_put [KR rk enc] {kvs : List (Key × V)} (w : Own c.H0 F H a (.dK kvs)) (al : AD enc r F kvs d) (hσ : σ[i]? = some (some (.ref a))) (ev : EvC c.w (te σ) (fz r) m F H) (evk : EvC c.w (ty σ) (fz rk) n F H) (e0 : Xt c.F0 c.H0 F H) (h : Po c (m.bd fun x => n.bd fun y => (M.put d y x).bd k))
    (go : ∀ ys us F1 H1, Xt c.F0 c.H0 F1 H1 → Chg a (.dK us) F H F1 H1 → Own c.H0 F1 H1 a (.dK us) → AD enc r F1 us ys → ys.length ≤ sizeLine → Po c (k ys) → u D σ H1) : tSeq (sDPut (tVar i) ty te) u D σ H := by
  refine EvC.run (C := te σ) ev e0 h fun x v F1 H1 e1 hv hk => ⟨_, hσ, ?_⟩
  refine EvC.run (C := ty σ) (evk.up e1) (e0.trans e1) hk fun y v1 F2 H2 e2 hy hk => ?_
  have e12 := e1.trans e2
  rcases Po.bd hk with ⟨ys, hy2, hk⟩ | ⟨e, he, _⟩
  · obtain ⟨hl, rfl⟩ := gd_ok hy2
    have w1 := w.up e12
    obtain ⟨c1, c2⟩ := w.chg e0 e12 (o := .dK (putK kvs (enc y) v))
    have al2 := al.mono e12.ff
    refine ⟨a, _, rfl, by rw [KR.kr (r := rk) (enc := enc) hy]; exact DPut.k w1.at_ (by rw [al.len]; exact hl), go _ _ F2 _ c1 c2 (w.set c2 trivial) (AD.put (KR.inj (r := rk) (enc := enc)) (Mono.mono (r := r) e2.ff hv) al2) ?_ hk⟩
    rw [aPut_length]
    split <;> omega
  · unfold M.put M.gd at he; split at he <;> cases he
theorem sq_putT [KT rk encT] {kvs : List (List Key × V)} (w : Own c.H0 F H a (.dT kvs)) (al : AD encT r F kvs d) (hσ : σ[i]? = some (some (.ref a))) (ev : EvC c.w (te σ) (fz r) m F H) (evk : EvC c.w (ty σ) (fz rk) n F H) (e0 : Xt c.F0 c.H0 F H) (h : Po c (m.bd fun x => n.bd fun y => (M.put d y x).bd k))
    (go : ∀ ys us F1 H1, Xt c.F0 c.H0 F1 H1 → Chg a (.dT us) F H F1 H1 → Own c.H0 F1 H1 a (.dT us) → AD encT r F1 us ys → ys.length ≤ sizeLine → Po c (k ys) → u D σ H1) : tSeq (sDPut (tVar i) ty te) u D σ H := by
  refine EvC.run (C := te σ) ev e0 h fun x v F1 H1 e1 hv hk => ⟨_, hσ, ?_⟩
  refine EvC.run (C := ty σ) (evk.up e1) (e0.trans e1) hk fun y v1 F2 H2 e2 hy hk => ?_
  have e12 := e1.trans e2
  rcases Po.bd hk with ⟨ys, hy2, hk⟩ | ⟨e, he, _⟩
  · obtain ⟨hl, rfl⟩ := gd_ok hy2
    have w1 := w.up e12
    obtain ⟨c1, c2⟩ := w.chg e0 e12 (o := .dT (putK kvs (encT y) v))
    have al2 := al.mono e12.ff
    obtain ⟨b, eb, hb⟩ := KT.kt (r := rk) (enc := encT) hy
    subst eb
    refine ⟨a, _, rfl, DPut.t w1.at_ (e2.fh _ _ hb) (by rw [al.len]; exact hl), go _ _ F2 _ c1 c2 (w.set c2 trivial) (AD.put (KT.inj (r := rk) (enc := encT)) (Mono.mono (r := r) e2.ff hv) al2) ?_ hk⟩
    rw [aPut_length]
    split <;> omega
  · unfold M.put M.gd at he; split at he <;> cases he
end
/-! ### the end -/
theorem sq_ret {m : M β} [Dn c.rr] (ev : EvC c.w (te σ) c.rr m F H) (e0 : Xt c.F0 c.H0 F H) (h : Po c m) (hD : ∀ v H, c.Q v H → D.rt v H) : tSeq (tRet te) u D σ H := by
  have h1 := ev F H (Xt.refl e0.fh)
  cases m with
  | bad => exact h.elim
  | exc e => exact h1 (Out.up h e0) D.rt
  | ok x => exact h1 D.rt fun v F2 H2 e2 hr => hD v H2 (h v F2 H2 (e0.trans e2) (Dn.dn e0.hh hr))
/-- a list of one's own is handed back, new -/
theorem sq_retO {r : Rl α} {Q : VK} {w0 : Xw} {F0 H0 : Hp} {i : Nat} {a : Addr} {vs : List V} {xs : List α} (w : Own H0 F H a (.lst vs)) (al : Al r F vs xs) (hz : xs.length ≤ sizeLine) (hσ : σ[i]? = some (some (.ref a))) (e0 : Xt F0 H0 F H) (h : Po ⟨w0, Q, nw r, F0, H0⟩ (.ok xs)) (hD : ∀ v H, Q v H → D.rt v H) :
    tSeq (tRet (tVar i)) u D σ H := ⟨_, hσ, hD _ _ (h _ F H e0 ⟨a, vs, rfl, w.new, w.nof, w.at_, al, hz⟩)⟩
theorem sq_retOF {r : Rl α} [Mono r] {Q : VK} {w0 : Xw} {F0 H0 : Hp} {i : Nat} {a : Addr} {vs : List V} {xs : List α} (w : Own H0 F H a (.lst vs)) (al : Al r F vs xs) (hz : xs.length ≤ sizeLine) (hσ : σ[i]? = some (some (.ref a))) (e0 : Xt F0 H0 F H) (h : Po ⟨w0, Q, fz (qL r), F0, H0⟩ (.ok xs)) (hD : ∀ v H, Q v H → D.rt v H) :
    tSeq (tRet (tVar i)) u D σ H := ⟨_, hσ, hD _ _ (h _ _ H (e0.frz w.new w.at_ w.nof) ⟨a, vs, rfl, upd_same, al.mono (fun b u z => by rw [upd_ne (ne_of_none z w.nof)]; exact z), hz⟩)⟩
section
variable {κ : Type} [DecidableEq κ] {enc : κ → Key} {encT : κ → List Key} {r : Rl α} {Q : VK} {w0 : Xw} {F0 H0 : Hp} {i : Nat} {a : Addr} {xs : List (κ × α)}
theorem sq_retD {vs : List (Key × V)} (w : Own H0 F H a (.dK vs)) (al : AD enc r F vs xs) (hz : xs.length ≤ sizeLine) (hσ : σ[i]? = some (some (.ref a))) (e0 : Xt F0 H0 F H) (h : Po ⟨w0, Q, dn enc r, F0, H0⟩ (.ok xs)) (hD : ∀ v H, Q v H → D.rt v H) :
    tSeq (tRet (tVar i)) u D σ H := ⟨_, hσ, hD _ _ (h _ F H e0 ⟨a, vs, rfl, w.new, w.nof, w.at_, al, hz⟩)⟩
theorem sq_retDT {vs : List (List Key × V)} (w : Own H0 F H a (.dT vs)) (al : AD encT r F vs xs) (hz : xs.length ≤ sizeLine) (hσ : σ[i]? = some (some (.ref a))) (e0 : Xt F0 H0 F H) (h : Po ⟨w0, Q, dnT encT r, F0, H0⟩ (.ok xs)) (hD : ∀ v H, Q v H → D.rt v H) :
    tSeq (tRet (tVar i)) u D σ H := ⟨_, hσ, hD _ _ (h _ F H e0 ⟨a, vs, rfl, w.new, w.nof, w.at_, al, hz⟩)⟩
end
/-- a list of one's own is frozen for good -/
theorem frz_own {r : Rl α} [Mono r] {F0 H0 : Hp} {a : Addr} {vs : List V} {xs : List α} (w : Own H0 F H a (.lst vs)) (al : Al r F vs xs) (hz : xs.length ≤ sizeLine) (e0 : Xt F0 H0 F H) : ∃ F', Xt F0 H0 F' H ∧ Same F F' ∧ qL r F' (.ref a) xs ∧ (∀ b, b ≠ a → F b = none → F' b = none) :=
  ⟨_, e0.frz w.new w.at_ w.nof, fun b u z => by rw [upd_ne (ne_of_none z w.nof)]; exact z, ⟨a, vs, rfl, upd_same, al.mono (fun b u z => by rw [upd_ne (ne_of_none z w.nof)]; exact z), hz⟩, fun b hb hf => by rw [upd_ne hb]; exact hf⟩
/-! ### loops -/
theorem sq_for {S : Type} {wi : TI} {g : TG} {tb : L2.TS} {r : Rl α} {m : M (List α)} {body : S → α → (S → M β) → (S → M β) → M β} {aft : S → M β} {s0 : S} (ev : EvC c.w (wi σ) (iwF r) m F H) (e0 : Xt c.F0 c.H0 F H) (h : Po c (m.bd fun xs => M.fr body aft xs s0))
    (N : Hp → S → Hp → L2.St → Hp → Prop) (hN : ∀ F1 s F' σ' H', N F1 s F' σ' H' → Same F1 F' ∧ Same F' H') (h0 : ∀ F1 H1, Xt F H F1 H1 → Xt c.F0 c.H0 F1 H1 → N F1 s0 F1 σ H1)
    (hb : ∀ (nx bk : L2.St → Hp → Prop) F1 s F2 σ2 H2 F3 H3 x v (next : S → M β), N F1 s F2 σ2 H2 → Xt F2 H2 F3 H3 → r F3 v x → (∀ s F' σ' H', N F1 s F' σ' H' → Po c (next s) → nx σ' H') → (∀ s F' σ' H', N F1 s F' σ' H' → Po c (aft s) → bk σ' H') → Po c (body s x next aft) →
      g v σ2 H3 fun σ4 H4 => tb { D with nx := nx, ct := nx, bk := bk } σ4 H4)
    (hd : ∀ F1 s F' σ' H', N F1 s F' σ' H' → Po c (aft s) → u D σ' H') : tSeq (tFor wi g tb) u D σ H := by
  refine EvC.run (C := wi σ) ev e0 h fun xs J F1 H1 e1 hw hk => ?_
  obtain ⟨⟨G, Y, wk, hG, hY⟩, hz⟩ := hw
  refine for_it (D := { D with nx := u D }) wk (fun i σ' H' => ∃ s F', N F1 s F' σ' H' ∧ Po c (M.fr body aft (xs.drop i) s)) ⟨s0, F1, h0 F1 H1 e1 (e0.trans e1), hk⟩ (fun i σ' H' _ ⟨s, F', hn, _⟩ => ?_) ?_ ?_
  · obtain ⟨s1, s2⟩ := hN _ _ _ _ _ hn
    exact hG F' H' s1 s2
  · rintro i v σ' H' H'' hi ⟨s, F', hn, hp⟩ hy
    obtain ⟨s1, s2⟩ := hN _ _ _ _ _ hn
    obtain ⟨F'', x, hx, e2, hr⟩ := hY i H' v H'' F' hi s1 s2 hy
    have hdrop : xs.drop i = x :: xs.drop (i + 1) := by
      rw [List.drop_eq_getElem_cons hi]
      congr 1
      rw [List.getElem?_eq_getElem hi] at hx
      exact Option.some.inj hx
    rw [hdrop, M.fr_cons] at hp
    exact hb (fun σ' H' => ∃ s F', N F1 s F' σ' H' ∧ Po c (M.fr body aft (xs.drop (i + 1)) s)) (u D) F1 s F' σ' H' F'' H'' x v _ hn e2 hr (fun s F' σ' H' hn hp => ⟨s, F', hn, hp⟩) (hd F1) hp
  · rintro σ' H' ⟨s, F', hn, hp⟩
    rw [List.drop_length] at hp
    exact hd F1 s F' σ' H' hn hp
theorem sq_while {S : Type} {tt : TT} {tb : L2.TS} {mt : S → M Bool} {body : S → (S → M β) → (S → M β) → M β} {aft : S → M β} {fuel : Nat} {s0 : S} (h : Po c (M.wh (fun s next brk => M.ite (mt s) (body s next brk) (brk s)) aft fuel s0))
    (N : S → Hp → L2.St → Hp → Prop) (h0 : N s0 F σ H) (ht : ∀ s F2 σ2 H2, N s F2 σ2 H2 → EvC c.w (tt σ2) teq (mt s) F2 H2 ∧ Xt c.F0 c.H0 F2 H2)
    (hb : ∀ (nx bk : L2.St → Hp → Prop) s F2 σ2 H2 F3 H3 (next : S → M β), N s F2 σ2 H2 → Xt F2 H2 F3 H3 → (∀ s F' σ' H', N s F' σ' H' → Po c (next s) → nx σ' H') → (∀ s F' σ' H', N s F' σ' H' → Po c (aft s) → bk σ' H') → Po c (body s next aft) →
      tb { D with nx := nx, ct := nx, bk := bk } σ2 H3)
    (hd : ∀ s F2 σ2 H2 F3 H3, N s F2 σ2 H2 → Xt F2 H2 F3 H3 → Po c (aft s) → u D σ2 H3) : tSeq (tWhile tt tb) u D σ H := by
  refine ⟨fun n σ' H' => ∃ s F', N s F' σ' H' ∧ Po c (M.wh (fun s next brk => M.ite (mt s) (body s next brk) (brk s)) aft n s), ⟨fuel, s0, F, h0, h⟩, ?_⟩
  rintro n σ' H' ⟨s, F', hn, hp⟩
  cases n with
  | zero => exact hp.elim
  | succ n =>
    obtain ⟨ev, e0⟩ := ht s F' σ' H' hn
    refine EvC.run (C := tt σ') ev e0 hp fun x b F3 H3 e3 hbx hk => ?_
    have hbx : b = x := hbx
    subst hbx
    cases b with
    | false => exact iteF (hd s F' σ' H' F3 H3 hn e3 hk)
    | true =>
      refine iteT ⟨fun σ' H' => ∃ s F', N s F' σ' H' ∧ Po c (M.wh (fun s next brk => M.ite (mt s) (body s next brk) (brk s)) aft n s), fun σ' H' h => ⟨n, Nat.lt_succ_self _, h⟩, ?_⟩
      exact hb _ (u D) s F' σ' H' F3 H3 _ hn e3 (fun s F' σ' H' hn hp => ⟨s, F', hn, hp⟩) (fun s F' σ' H' hn hp => hd s F' σ' H' F' H' hn (Xt.refl (ht s F' σ' H' hn).2.fh) hp) hk
end
section
variable {β : Type} {c : Cxt β} {σ : L2.St} {F H : Hp} {K : PySem.W.Frag} {α γ δ : Type} {te tl : TE} {u : L2.TS} {D : Ends}
theorem sq_newDG {κ : Type} [DecidableEq κ] {enc : κ → Key} {r : Rl α} {i : Nat} {m : M (List (κ × α))} {k : List (κ × α) → M β} (ev : EvC c.w (te σ) (dn enc r) m F H) (e0 : Xt c.F0 c.H0 F H) (h : Po c (m.bd k)) (σ' : V → L2.St) (hσ : ∀ v, σ.set i (some v) = σ' v)
    (go : ∀ x p vs F1 H1, Xt F H F1 H1 → Xt c.F0 c.H0 F1 H1 → H p = none → Own c.H0 F1 H1 p (.dK vs) → AD enc r F1 vs x → x.length ≤ sizeLine → Po c (k x) → u D (σ' (.ref p)) H1) : tSeq (tAsg te (gName i)) u D σ H :=
  sq_set ev e0 h σ' hσ fun x v F1 H1 e1 e2 ⟨p, vs, ev, hp, hf, hh, al, hz⟩ hk => by
    subst ev
    exact go x p vs F1 H1 e1 e2 hp ⟨e0.free hp, hf, hh, trivial⟩ al hz hk
theorem sq_newTG {κ : Type} [DecidableEq κ] {enc : κ → List Key} {r : Rl α} {i : Nat} {m : M (List (κ × α))} {k : List (κ × α) → M β} (ev : EvC c.w (te σ) (dnT enc r) m F H) (e0 : Xt c.F0 c.H0 F H) (h : Po c (m.bd k)) (σ' : V → L2.St) (hσ : ∀ v, σ.set i (some v) = σ' v)
    (go : ∀ x p vs F1 H1, Xt F H F1 H1 → Xt c.F0 c.H0 F1 H1 → H p = none → Own c.H0 F1 H1 p (.dT vs) → AD enc r F1 vs x → x.length ≤ sizeLine → Po c (k x) → u D (σ' (.ref p)) H1) : tSeq (tAsg te (gName i)) u D σ H :=
  sq_set ev e0 h σ' hσ fun x v F1 H1 e1 e2 ⟨p, vs, ev, hp, hf, hh, al, hz⟩ hk => by
    subst ev
    exact go x p vs F1 H1 e1 e2 hp ⟨e0.free hp, hf, hh, trivial⟩ al hz hk
/-! targets of a for -/
theorem g1 {tb : L2.TS} {i : Nat} {v : V} (σ' : L2.St) (hσ : σ.set i (some v) = σ') (h : tb D σ' H) : gName i v σ H (fun σ4 H4 => tb D σ4 H4) := by
  show tb D (σ.set i (some v)) H
  rw [hσ]; exact h
theorem g2 {tb : L2.TS} {i j : Nat} {v : V} {r : Rl α} {s : Rl γ} {x : α × γ} (hx : rP r s F v x) (sF : Same F H) (σ' : V → V → L2.St) (hσ : ∀ v1 v2, (σ.set i (some v1)).set j (some v2) = σ' v1 v2) (h : ∀ v1 v2, r F v1 x.1 → s F v2 x.2 → tb D (σ' v1 v2) H) :
    gTup K 2 (gCons (gName i) (gCons (gName j) gNil)) v σ H (fun σ4 H4 => tb D σ4 H4) := by
  obtain ⟨a, u1, u2, ea, h0, h1, h2⟩ := hx
  refine ⟨a, _, ea, SqT.of (sF _ _ h0), rfl, _, _, rfl, _, _, rfl, rfl, ?_⟩
  show tb D ((σ.set i (some u1)).set j (some u2)) H
  rw [hσ]; exact h _ _ h1 h2
theorem g3 {tb : L2.TS} {i j l : Nat} {v : V} {r : Rl α} {s : Rl γ} {t : Rl δ} {x : α × γ × δ} (hx : qT3 r s t F v x) (sF : Same F H) (σ' : V → V → V → L2.St) (hσ : ∀ v1 v2 v3, ((σ.set i (some v1)).set j (some v2)).set l (some v3) = σ' v1 v2 v3) (h : ∀ v1 v2 v3, r F v1 x.1 → s F v2 x.2.1 → t F v3 x.2.2 → tb D (σ' v1 v2 v3) H) :
    gTup K 3 (gCons (gName i) (gCons (gName j) (gCons (gName l) gNil))) v σ H (fun σ4 H4 => tb D σ4 H4) := by
  obtain ⟨a, u1, u2, u3, ea, h0, h1, h2, h3⟩ := hx
  refine ⟨a, _, ea, SqT.of (sF _ _ h0), rfl, _, _, rfl, _, _, rfl, _, _, rfl, rfl, ?_⟩
  show tb D (((σ.set i (some u1)).set j (some u2)).set l (some u3)) H
  rw [hσ]; exact h _ _ _ h1 h2 h3
theorem g12 {tb : L2.TS} {i j l : Nat} {v : V} {r : Rl α} {s : Rl γ} {t : Rl δ} {x : α × γ × δ} (hx : rP r (rP s t) F v x) (sF : Same F H) (σ' : V → V → V → L2.St) (hσ : ∀ v1 v2 v3, ((σ.set i (some v1)).set j (some v2)).set l (some v3) = σ' v1 v2 v3) (h : ∀ v1 v2 v3, r F v1 x.1 → s F v2 x.2.1 → t F v3 x.2.2 → tb D (σ' v1 v2 v3) H) :
    gTup K 2 (gCons (gName i) (gCons (gTup K 2 (gCons (gName j) (gCons (gName l) gNil))) gNil)) v σ H (fun σ4 H4 => tb D σ4 H4) := by
  obtain ⟨a, u1, u2, ea, h0, h1, b, u3, u4, eb, h3, h4, h5⟩ := hx
  refine ⟨a, _, ea, SqT.of (sF _ _ h0), rfl, _, _, rfl, _, _, rfl, b, _, eb, SqT.of (sF _ _ h3), rfl, _, _, rfl, _, _, rfl, rfl, rfl, ?_⟩
  show tb D (((σ.set i (some u1)).set j (some u3)).set l (some u4)) H
  rw [hσ]; exact h _ _ _ h1 h4 h5
end
section
variable {w : Xw} {σ : L2.St} {F H : Hp} {K : PySem.W.Frag} {α β γ δ : Type} {ta tb tc : TE}
theorem e_lstP {r : Rl α} [Mono r] {ts : TA} {xs : List α} (hs : EvA w ts σ (ral r) (fun f => f xs) F H) (hl : xs.length ≤ 1000) : EvC w (tLst ts σ) (nw r) (.ok xs) F H := by
  have h : EvC w (tLst ts σ) (nw r) (M.gd (xs.length ≤ sizeLine) (.ok xs)) F H := e_lst hs
  rw [M.gd_pos (by rw [sl64]; omega)] at h
  exact h
theorem e_nd {κ : Type} [DecidableEq κ] {enc : κ → Key} {C : Hp → (V → Hp → Prop) → Prop} {r : Rl α} {m : M (List (κ × α))} (h : EvC w C (dn enc r) m F H) : EvC w C (db enc r) m F H := e_mp h fun _ _ _ _ _ ⟨a, vs, e, _, _, hh, al, hz⟩ => ⟨a, vs, e, hh, al, hz⟩
theorem e_ndT {κ : Type} [DecidableEq κ] {enc : κ → List Key} {C : Hp → (V → Hp → Prop) → Prop} {r : Rl α} {m : M (List (κ × α))} (h : EvC w C (dnT enc r) m F H) : EvC w C (dbT enc r) m F H := e_mp h fun _ _ _ _ _ ⟨a, vs, e, _, _, hh, al, hz⟩ => ⟨a, vs, e, hh, al, hz⟩
theorem e_lcMap {C : Hp → (V → Hp → Prop) → Prop} {R : R3 (List β)} {m : M (List α)} {f : α → β} (h : EvC w C R (m.bd fun xs => M.lc (fun _ => .ok true) (fun x => .ok (f x)) xs) F H) : EvC w C R (m.bd fun xs => .ok (xs.map f)) F H := by
  have e : (fun xs => M.lc (fun _ => .ok true) (fun x => .ok (f x)) xs) = fun xs : List α => M.ok (xs.map f) := funext fun xs => lc_map xs
  rw [e] at h; exact h
theorem e_lcPure {C : Hp → (V → Hp → Prop) → Prop} {R : R3 (List β)} {m : M (List α)} {p : α → Bool} {f : α → β} (h : EvC w C R (m.bd fun xs => M.lc (fun x => .ok (p x)) (fun x => .ok (f x)) xs) F H) : EvC w C R (m.bd fun xs => .ok ((xs.filter p).map f)) F H := by
  have e : (fun xs => M.lc (fun x => .ok (p x)) (fun x => .ok (f x)) xs) = fun xs : List α => M.ok ((xs.filter p).map f) := funext fun xs => lc_pure xs
  rw [e] at h; exact h
theorem e_lcFil {C : Hp → (V → Hp → Prop) → Prop} {R : R3 (List α)} {m : M (List α)} {p : α → Bool} (h : EvC w C R (m.bd fun xs => M.lc (fun x => .ok (p x)) (fun x => .ok x) xs) F H) : EvC w C R (m.bd fun xs => .ok (xs.filter p)) F H := by
  have e : (fun xs => M.lc (fun x => .ok (p x)) (fun x => .ok x) xs) = fun xs : List α => M.ok (xs.filter p) := funext fun xs => lc_fil xs
  rw [e] at h; exact h
theorem e_inT [DecidableEq α] {r : Rl α} [Mono r] [Fla r] {m : M α} {n : M (List α)} (ha : EvC w (ta σ) (fz r) m F H) (hb : EvC w (tb σ) (fz (qTL r)) n F H) : EvC w (tOp (rIn K false) ta tb σ) (fz rB) (m.bd fun x => n.bd fun xs => .ok (decide (x ∈ xs))) F H :=
  e_op ha hb (fun _ _ => .inl ⟨_, rfl⟩) fun hz h1 h2 s Q q => by
    cases hz
    obtain ⟨a, vs, rfl, e, al⟩ := h2
    obtain ⟨i1, i2⟩ := inV_al (r := r) h1 al
    refine ⟨a, vs, rfl, .inr (SqT.of (s _ _ e)), (Fla.fla (r := r) h1 h1).1, i1, ?_⟩
    rw [if_neg Bool.false_ne_true, i2]
    exact q _ _ _ (Xt.refl s) rfl
class NN (r : Rl α) : Prop where
  nn : ∀ F v x, r F v x → v ≠ .non
instance : NN rI := ⟨fun _ _ _ h => by cases h; simp⟩
instance : NN rNat := ⟨fun _ _ _ h => by cases h; simp⟩
instance : NN rC := ⟨fun _ _ _ h => by cases h; simp⟩
instance : NN rB := ⟨fun _ _ _ h => by cases h; simp⟩
instance : NN qS := ⟨fun _ _ _ h => by obtain ⟨rfl, _⟩ := h; simp⟩
instance {r : Rl α} : NN (qL r) := ⟨fun _ _ _ ⟨a, vs, e, _⟩ => by rw [e]; simp⟩
instance {r : Rl α} {s : Rl β} : NN (rP r s) := ⟨fun _ _ _ ⟨a, u, z, e, _⟩ => by rw [e]; simp⟩
theorem e_isNc {r : Rl α} [NN r] {m : M (Option α)} (ha : EvC w (ta σ) (fz (rO r)) m F H) : EvC w (tOp (fun x y H Q => y = V.non ∧ Q (.bl (decide (x = V.non))) H) ta (tC .non) σ) (fz rB) (m.bd fun x => .ok x.isNone) F H := e_isN NN.nn rfl ha
theorem e_notNc {r : Rl α} [NN r] {m : M (Option α)} (ha : EvC w (ta σ) (fz (rO r)) m F H) : EvC w (tOp (fun x y H Q => y = V.non ∧ Q (.bl (!decide (x = V.non))) H) ta (tC .non) σ) (fz rB) (m.bd fun x => .ok x.isSome) F H := e_notN NN.nn rfl ha
theorem Al.cs1 {F : Hp} : ∀ {vs : List V} {xs : List Nat}, Al rC F vs xs → Al qS F vs (xs.map fun c => [c])
  | _, _, .nil => .nil
  | _, _, .cons h t => .cons ⟨h, one_le⟩ (Al.cs1 t)
theorem e_csL {C : Hp → (V → Hp → Prop) → Prop} {m : M (List Nat)} (h : EvC w C (fz (qL rC)) m F H) : EvC w C (fz (qL qS)) (m.bd fun x => .ok (x.map fun c => [c])) F H := e_cv h fun F v x ⟨a, vs, e, h1, al, hz⟩ => ⟨a, vs, e, h1, al.cs1, by rw [List.length_map]; exact hz⟩
end
end SF
/-! ### {k: v for a in xs for b in ys}, the keys tuples -/
namespace SF
open PySem PySem.Spec PyProof.Rows L2
theorem d_setT {X : Cx} {pins : List (Addr × Obj)} {σ : L2.St} {H : Hp} {s : Shared} {E : Value → Shared → Prop} {A : Around} {D b : Addr} {kvs : List (List Key × V)} {k : List Key} {v : V} {u r : Value} {Q : Unit → Shared → Prop} (hu : A.units + 1 < cLine) (I : Inv X pins σ H s) (e : H D = some (.dT kvs)) (eb : H b = some (.tup (k.map kV))) (l : kvs.length < sizeLine)
    (ry : RelV (.ref b) u) (rv : RelV v r) (h : ∀ s', Inv X pins σ (upd H D (.dT (putK kvs k v))) s' → Q () s') : wpAny (model X.prog X.w) A (dictSet D u r) Q E s := by
  cases (show u = Value.ref b from ry)
  obtain ⟨z, hd, xs, rel, dd⟩ := dt_of I.hok e
  have hz1 : xs.length ≤ sizeLine := by have q := Paired.length rel; omega
  have hz2 : (putK kvs k v).length ≤ sizeLine := by have := length_putK kvs k v; omega
  refine wpAny_dictSet_heap (hsz := hz1) (by show _ < cLine; omega) (key_of I.hok eb) dd fun h' dd' hs => h _ ?_
  obtain ⟨q, es, ep, hq, g2, g3, g4, _, g5⟩ := dd'
  refine d_write I (by rw [e]; exact True.intro) hs ⟨q, hq⟩ ⟨hz2, hd, _, (rel.put k eb rv).keeps fun c ys ec => ?_, q, es, ep, hq, g2, g3, g4, g5⟩
  rw [upd_ne (ne_of ec e fun z => nomatch z), ec]
theorem turnD_out (kx vx t0 i0 t1 i1 : Expr) (ifs0 ifs1 : List Expr) (scope : Scope) (pos : Pos) (it : Value) (D : Addr) (env : Env) :
    compTurn (.DictComp kx vx [⟨t0, i0, ifs0, 0⟩, ⟨t1, i1, ifs1, 0⟩] scope pos) 0 it (.ref D) env = (do
      standAt i0.pos
      match ← pyNext it with
      | none => pure (.done .next)
      | some v =>
        letOwnedTupleGo t0 it v
        assign t0 env v
        let mut ok := true
        for c in ifs0 do
          if ok then ok ← isTrue c env (eval c env)
        if ok then
          let x ← eval i1 env
          standAt i1.pos
          let x ← foldedSetIterable i1 env x
          let _ ← runOwn (.compStart (.DictComp kx vx [⟨t0, i0, ifs0, 0⟩, ⟨t1, i1, ifs1, 0⟩] scope pos) 1 (← holding [x] (pyIter x)) (.ref D) env) env
        again (.compLoop (.DictComp kx vx [⟨t0, i0, ifs0, 0⟩, ⟨t1, i1, ifs1, 0⟩] scope pos) 0 it (.ref D) env)) := by rfl
theorem turnD_in (kx vx t0 i0 t1 i1 : Expr) (ifs0 ifs1 : List Expr) (scope : Scope) (pos : Pos) (it : Value) (D : Addr) (env : Env) :
    compTurn (.DictComp kx vx [⟨t0, i0, ifs0, 0⟩, ⟨t1, i1, ifs1, 0⟩] scope pos) 1 it (.ref D) env = (do
      standAt i1.pos
      match ← pyNext it with
      | none => pure (.done .next)
      | some v =>
        letOwnedTupleGo t1 it v
        assign t1 env v
        let mut ok := true
        for c in ifs1 do
          if ok then ok ← isTrue c env (eval c env)
        if ok then
          (do
            let kv ← eval kx env
            let vv ← holding [kv] (eval vx env)
            standAt { kx.pos with endLine := vx.pos.endLine, endCol := vx.pos.endCol }
            holding [kv, vv] (dictSet D kv vv))
        again (.compLoop (.DictComp kx vx [⟨t0, i0, ifs0, 0⟩, ⟨t1, i1, ifs1, 0⟩] scope pos) 1 it (.ref D) env)) := by rfl

section
variable {prog : Program} {w : World} {A : Around} {R : Result → Shared → Prop} {s : Shared} {kx vx t0 i0 t1 i1 : Expr} {ifs0 ifs1 : List Expr} {scope : Scope} {pos : Pos} {it : Value} {D : Addr} {env : Env}
/-- the loop of the first clause -/
theorem loopD_out (hs : ∀ x, foldedSetIterable i1 env x = pure x) (I : Nat → Shared → Prop)
    (turn : ∀ n s, I n s → wpAny (model prog w) A (pyNext it) (fun r s₁ => match r with
      | none => R (.ok .next) s₁
      | some v => wpAny (model prog w) A (letOwnedTupleGo t0 it v) (fun _ s₁' => wpAny (model prog w) A (assign t0 env v) (fun _ s₂ =>
          wpAny (model prog w) A (forIn ifs0 true fun c r => if r = true then do let ok ← isTrue c env (eval c env); pure (ForInStep.yield ok) else pure (ForInStep.yield r)) (fun ok s₃ =>
            if ok = true then wpAny (model prog w) A (eval i1 env) (fun x s₄ => wpAny (model prog w) A (pyIter x) (fun it1 s₅ =>
              codeAny (model prog w) A (.compStart (.DictComp kx vx [⟨t0, i0, ifs0, 0⟩, ⟨t1, i1, ifs1, 0⟩] scope pos) 1 it1 (.ref D) env) (fun r s' => match r with
                | .ok _ => ∃ m, m < n ∧ I m s'
                | .error _ => False) s₅) (notedBy (model prog w) A env fun e s' => R (.error e) s') s₄) (notedBy (model prog w) A env fun e s' => R (.error e) s') s₃
            else ∃ m, m < n ∧ I m s₃) (notedBy (model prog w) A env fun e s' => R (.error e) s') s₂) (notedBy (model prog w) A env fun e s' => R (.error e) s') s₁') (notedBy (model prog w) A env fun e s' => R (.error e) s') s₁) (notedBy (model prog w) A env fun e s' => R (.error e) s') s)
    (n : Nat) (h : I n s) :
    codeAny (model prog w) A (.compLoop (.DictComp kx vx [⟨t0, i0, ifs0, 0⟩, ⟨t1, i1, ifs1, 0⟩] scope pos) 0 it (.ref D) env) R s := by
  refine codeAny_loop rfl I (fun n s hI => ?_) n h
  show wpAny _ A ((compTurn (.DictComp kx vx [⟨t0, i0, ifs0, 0⟩, ⟨t1, i1, ifs1, 0⟩] scope pos) 0 it (.ref D) env).onRaise (fun x => do noteFrame x env; theTreesLotGoes x)) _ _ s
  refine wpAny_noted ?_
  rw [turnD_out]
  refine wpAny_bind (wpAny_standAt (wpAny_bind (wpAny_mono (turn n s hI) (fun r s₁ h₁ => ?_) fun _ _ h' => h')))
  cases r with
  | none => exact wpAny_pure h₁
  | some v =>
    refine wpAny_bind (wpAny_mono h₁ (fun _ s₁' h₁' => ?_) fun _ _ h' => h')
    refine wpAny_bind (wpAny_mono h₁' (fun _ s₂ h₂ => wpAny_bind (wpAny_mono h₂ (fun ok s₃ h₃ => ?_) fun _ _ h' => h')) fun _ _ h' => h')
    cases ok with
    | false => exact wpAny_pure ⟨rfl, h₃⟩
    | true =>
      refine wpAny_bind (wpAny_mono h₃ (fun x s₄ h₄ => ?_) fun _ _ h' => h')
      refine wpAny_bind (wpAny_standAt (wpAny_bind (wpAny_of_eq (hs x) (wpAny_bind (wpAny_holding (wpAny_mono h₄ (fun it1 s₅ h₅ => ?_) fun _ _ h' => h'))))))
      refine wpAny_bind (wpAny_runOwn ?_)
      rw [Around.mark_none]
      refine codeAny_mono h₅ fun r s' hr => ?_
      cases r with
      | ok f =>
        first
          | exact wpAny_pure ⟨rfl, hr⟩
          | exact wpAny_bind (wpAny_pure (wpAny_pure ⟨rfl, hr⟩))
      | error e => exact hr.elim
/-- the loop of the second -/
theorem loopD_in (I : Nat → Shared → Prop)
    (turn : ∀ n s, I n s → wpAny (model prog w) A (pyNext it) (fun r s₁ => match r with
      | none => R (.ok .next) s₁
      | some v => wpAny (model prog w) A (letOwnedTupleGo t1 it v) (fun _ s₁' => wpAny (model prog w) A (assign t1 env v) (fun _ s₂ =>
          wpAny (model prog w) A (forIn ifs1 true fun c r => if r = true then do let ok ← isTrue c env (eval c env); pure (ForInStep.yield ok) else pure (ForInStep.yield r)) (fun ok s₃ =>
            if ok = true then wpAny (model prog w) A (eval kx env) (fun kv s₄ => wpAny (model prog w) A (eval vx env) (fun vv s₅ =>
              wpAny (model prog w) A (dictSet D kv vv) (fun _ s₆ => ∃ m, m < n ∧ I m s₆) (notedBy (model prog w) A env fun e s' => R (.error e) s') s₅) (notedBy (model prog w) A env fun e s' => R (.error e) s') s₄) (notedBy (model prog w) A env fun e s' => R (.error e) s') s₃
            else ∃ m, m < n ∧ I m s₃) (notedBy (model prog w) A env fun e s' => R (.error e) s') s₂) (notedBy (model prog w) A env fun e s' => R (.error e) s') s₁') (notedBy (model prog w) A env fun e s' => R (.error e) s') s₁) (notedBy (model prog w) A env fun e s' => R (.error e) s') s)
    (n : Nat) (h : I n s) :
    codeAny (model prog w) A (.compLoop (.DictComp kx vx [⟨t0, i0, ifs0, 0⟩, ⟨t1, i1, ifs1, 0⟩] scope pos) 1 it (.ref D) env) R s := by
  refine codeAny_loop rfl I (fun n s hI => ?_) n h
  show wpAny _ A ((compTurn (.DictComp kx vx [⟨t0, i0, ifs0, 0⟩, ⟨t1, i1, ifs1, 0⟩] scope pos) 1 it (.ref D) env).onRaise (fun x => do noteFrame x env; theTreesLotGoes x)) _ _ s
  refine wpAny_noted ?_
  rw [turnD_in]
  refine wpAny_bind (wpAny_standAt (wpAny_bind (wpAny_mono (turn n s hI) (fun r s₁ h₁ => ?_) fun _ _ h' => h')))
  cases r with
  | none => exact wpAny_pure h₁
  | some v =>
    refine wpAny_bind (wpAny_mono h₁ (fun _ s₁' h₁' => ?_) fun _ _ h' => h')
    refine wpAny_bind (wpAny_mono h₁' (fun _ s₂ h₂ => wpAny_bind (wpAny_mono h₂ (fun ok s₃ h₃ => ?_) fun _ _ h' => h')) fun _ _ h' => h')
    cases ok with
    | false => exact wpAny_pure ⟨rfl, h₃⟩
    | true =>
      exact wpAny_bind (wpAny_bind (wpAny_mono h₃ (fun kv s₄ h₄ => wpAny_bind (wpAny_holding (wpAny_mono h₄ (fun vv s₅ h₅ => wpAny_bind (wpAny_standAt (wpAny_holding (wpAny_mono h₅ (fun _ s₆ h₆ => wpAny_pure ⟨rfl, h₆⟩) fun _ _ h' => h')))) fun _ _ h' => h'))) fun _ _ h' => h'))
/-- the second clause's start -/
theorem startD_one (h0 : codeAny (model prog w) A (.compLoop (.DictComp kx vx [⟨t0, i0, ifs0, 0⟩, ⟨t1, i1, ifs1, 0⟩] scope pos) 1 it (.ref D) env) R s)
    (h : wpAny (model prog w) A (pyIter it) (fun it' s' => codeAny (model prog w) A (.compLoop (.DictComp kx vx [⟨t0, i0, ifs0, 0⟩, ⟨t1, i1, ifs1, 0⟩] scope pos) 1 it' (.ref D) env) R s')
      (notedBy (model prog w) A env fun x s' => R (.error x) s') s) :
    codeAny (model prog w) A (.compStart (.DictComp kx vx [⟨t0, i0, ifs0, 0⟩, ⟨t1, i1, ifs1, 0⟩] scope pos) 1 it (.ref D) env) R s := by
  refine codeAny_of_tree ?_
  show wpAny _ _ ((compStart (.DictComp kx vx [⟨t0, i0, ifs0, 0⟩, ⟨t1, i1, ifs1, 0⟩] scope pos) 1 it (.ref D) env).onRaise (fun x => do noteFrame x env; standAt theWindowsPlace)) _ _ s
  refine wpAny_notedAt ?_
  unfold compStart
  show wpAny _ _ (ask >>= _) _ _ s
  refine wpAny_bind (wpAny_askSetting (wpAny_ite ?_))
  split
  · first
      | exact wpAny_bind (wpAny_pure (wpAny_pure (And.intro rfl h0)))
      | exact wpAny_pure (And.intro rfl h0)
  · first
      | exact wpAny_bind (wpAny_rule (wpAny_bind (wpAny_standAt (wpAny_bind (wpAny_mono h (fun it' s' h' => wpAny_pure (And.intro rfl h')) fun _ _ x => x)))))
      | (refine wpAny_bind (wpAny_rule ?_); show wpAny _ _ (standAt i1.pos >>= _) _ _ s; exact wpAny_bind (wpAny_standAt (wpAny_bind (wpAny_mono h (fun it' s' h' => wpAny_pure (And.intro rfl h')) fun _ _ x => x))))
end

section
variable {X : Cx}
def tDcT (wi : TI) (g : TG) (tt : TT) (wi1 : TI) (g1 : TG) (tt1 : TT) (tk tv : TE) (vs vs1 : List Nat) : TE := fun σ H Q => wi σ H fun J H1 => ∀ D, H1 D = none → ∃ W : Nat → Nat → Hp → Prop, (∃ m, W 0 m (upd H1 D (.dT []))) ∧ ∀ i m H, W i m H →
  (J.stop i H ∧ Q (.ref D) H) ∨ (J.go i H ∧ ∃ Nx : Hp → Prop, (∀ H', Nx H' → ∃ m', m' < m ∧ W (i + 1) m' H') ∧ ∀ x H', J.yld i H x H' → g x (wipe σ vs) H' fun σ2 H2 => wipe σ2 vs = wipe σ vs ∧ tt σ2 H2 fun b H3 =>
    if b = true then wi1 σ2 H3 fun J1 H4 => ∃ W1 : Nat → Nat → Hp → Prop, (∃ m, W1 0 m H4) ∧ ∀ j k H, W1 j k H →
      (J1.stop j H ∧ Nx H) ∨ (J1.go j H ∧ ∃ Nx1 : Hp → Prop, (∀ H', Nx1 H' → ∃ k', k' < k ∧ W1 (j + 1) k' H') ∧ ∀ x H', J1.yld j H x H' → g1 x (wipe σ2 vs1) H' fun σ3 H5 => wipe σ3 vs1 = wipe σ2 vs1 ∧ tt1 σ3 H5 fun b H6 =>
        if b = true then tk σ3 H6 fun y H7 => tv σ3 H7 fun z H8 => ∃ kvs k b, y = .ref b ∧ H8 b = some (.tup (k.map kV)) ∧ H8 D = some (.dT kvs) ∧ kvs.length < sizeLine ∧ Nx1 (upd H8 D (.dT (putK kvs k z))) else Nx1 H6)
    else Nx H3)
theorem dcT_core {pins : List (Addr × Obj)} {s : Shared} {σ : L2.St} {H : Hp} {Q : VK} {kx vx tg iter tg1 iter1 : Expr} {ifs ifs1 : List Expr} {scope : Scope} {own : List (Str × Nat)} {vs1 : List Nat} {pos pos' : Pos} {wi wi1 : TI} {g g1 : TG} {tt tt1 : TT} {tk tv : TE} {use : Option (Value → Sem Unit)} {Qf : Value → Shared → Prop}
    (hc : X.calm = true) (hu : X.A.units + 1 < cLine) (hN : X.N.Nodup) (I : Inv X pins σ H s) (hi : PI X tg iter wi) (ok : BlkOk X.N X.env.scope scope own) (hv : ∀ i ∈ vs1, i ∈ own.map (·.2))
    (hg : ∀ (s : Shared) (H : Hp) (C : Addr) (cl : List (Str × Addr)) (fp : List Addr), PG (X.blk s H scope (compEnvC scope cl C X.env) fp) tg g) (ht : ∀ (s : Shared) (H : Hp) (C : Addr) (cl : List (Str × Addr)) (fp : List Addr), PTs (X.blk s H scope (compEnvC scope cl C X.env) fp) ifs tt)
    (hk : ∀ (s : Shared) (H : Hp) (C : Addr) (cl : List (Str × Addr)) (fp : List Addr), PE (X.blk s H scope (compEnvC scope cl C X.env) fp) kx tk)
    (he : ∀ (s : Shared) (H : Hp) (C : Addr) (cl : List (Str × Addr)) (fp : List Addr), PE (X.blk s H scope (compEnvC scope cl C X.env) fp) vx tv) (hs : ∀ x, foldedSetIterable iter X.env x = pure x)
    (hi1 : ∀ (s : Shared) (H : Hp) (C : Addr) (cl : List (Str × Addr)) (fp : List Addr), PI (X.blk s H scope (compEnvC scope cl C X.env) fp) tg1 iter1 wi1)
    (hg1 : ∀ (s : Shared) (H : Hp) (C : Addr) (cl : List (Str × Addr)) (fp : List Addr), PG (X.blk s H scope (compEnvC scope cl C X.env) fp) tg1 g1)
    (ht1 : ∀ (s : Shared) (H : Hp) (C : Addr) (cl : List (Str × Addr)) (fp : List Addr), PTs (X.blk s H scope (compEnvC scope cl C X.env) fp) ifs1 tt1)
    (hs1 : ∀ env x, foldedSetIterable iter1 env x = pure x)
    (h : tDcT wi g tt wi1 g1 tt1 tk tv (own.map (·.2)) vs1 σ H Q)
    (hRR : ∀ D C s' m H', Inv X pins σ H' s' → Q (.ref D) H' → s'.heap.Ns C m → FpOk X pins H' C → compPost (model X.prog X.w) X.A X.xe use Qf (.ref D) C (.ok .next) s') :
    wpAny (model X.prog X.w) X.A (comprehension (.DictComp kx vx [⟨tg, iter, ifs, 0⟩, ⟨tg1, iter1, ifs1, 0⟩] scope pos) scope X.env pos' newDict false (eval iter X.env) use) Qf X.xe s := by
  have hfree : ∀ y ∈ scope.names, y.2 = .free → ∃ c, X.env.cells.lookup y.1 = some c := fun y hy e => by
    rcases ok.free y hy e with k | k
    · exact I.ok.has _ (.inl k)
    · exact I.ok.has _ (.inr k)
  refine wpAny_comprehension_free (use := use) rfl hs (closure_ok hfree) ok.kind (fun y hy e => by rw [ok.uniq y hy, e])
    (thn (hi.run pins s σ H _ I h) fun xv s1 hx => thn hx fun itv s2 h2 => ?_)
  obtain ⟨it, fp, tn, J, H2, e, I2, T, st2, f2, q⟩ := h2
  subst e
  refine wpAny_newObj_type (newEnv_comp ?_)
  generalize hD : s2.heap.objs.size = D
  have hDn : H2 D = none := I2.hok.fresh (Nat.le_of_eq hD)
  obtain ⟨W, ⟨m0, w0⟩, turn⟩ := q D hDn
  -- the new list
  generalize hs3 : ({ s2 with heap := s2.heap.push { cls := .type "dict", data := .dict #[] } } : Shared) = s3
  have I3 : Inv X pins σ (upd H2 D (.dT [])) s3 := by
    rw [← hs3]
    refine I2.laid (t' := s2.toks) (fun b o e => Heap.get?_push_of_some _ e) (Nat.le_of_eq hD) ?_
    rw [← hD]
    exact dt_empty s2.heap I2.big
  have h3 : s3.heap = s2.heap.push { cls := .type "dict", data := .dict #[] } := by rw [← hs3]
  have sz : ∀ b ∈ fp, b < s2.heap.objs.size := fun b hb => by
    obtain ⟨o, e, _⟩ := T.obj _ _ st2 b hb
    exact Heap.lt_size e
  have f3 : ∀ b ∈ fp, FpOk X pins (upd H2 D (.dT [])) b ∧ b < s3.heap.objs.size := fun b hb => by
    have hlt := sz b hb
    refine ⟨⟨?_, (f2 b hb).2⟩, by rw [h3, Heap.size_push]; exact Nat.lt_succ_of_lt hlt⟩
    rw [upd_ne (by rw [← hD]; exact Nat.ne_of_lt hlt)]
    exact (f2 b hb).1
  have st3 : tn 0 s3.heap := T.keep _ _ _ st2 fun b _ o e => by rw [h3]; exact Heap.get?_push_of_some _ e
  have I4 := block_start I3 ok hN f3
  have pg := hg s3 (upd H2 D (.dT [])) s3.heap.objs.size (cellsFrom (s3.heap.objs.size + 1) scope.names (cloFrom X.env.cells scope.names [])) fp
  have pt := ht s3 (upd H2 D (.dT [])) s3.heap.objs.size (cellsFrom (s3.heap.objs.size + 1) scope.names (cloFrom X.env.cells scope.names [])) fp
  have pk := hk s3 (upd H2 D (.dT [])) s3.heap.objs.size (cellsFrom (s3.heap.objs.size + 1) scope.names (cloFrom X.env.cells scope.names [])) fp
  have pe := he s3 (upd H2 D (.dT [])) s3.heap.objs.size (cellsFrom (s3.heap.objs.size + 1) scope.names (cloFrom X.env.cells scope.names [])) fp
  have pi1 := hi1 s3 (upd H2 D (.dT [])) s3.heap.objs.size (cellsFrom (s3.heap.objs.size + 1) scope.names (cloFrom X.env.cells scope.names [])) fp
  have pg1 := hg1 s3 (upd H2 D (.dT [])) s3.heap.objs.size (cellsFrom (s3.heap.objs.size + 1) scope.names (cloFrom X.env.cells scope.names [])) fp
  have pt1 := ht1 s3 (upd H2 D (.dT [])) s3.heap.objs.size (cellsFrom (s3.heap.objs.size + 1) scope.names (cloFrom X.env.cells scope.names [])) fp
  show codeAny _ _ (.compStart (.DictComp kx vx [⟨tg, iter, ifs, 0⟩, ⟨tg1, iter1, ifs1, 0⟩] scope pos) 0 (.ref it) (.ref D) (compEnvC scope (cellsFrom (s3.heap.objs.size + 1) scope.names (cloFrom X.env.cells scope.names [])) s3.heap.objs.size X.env)) (compPost (model X.prog X.w) X.A X.xe use Qf (.ref D) s3.heap.objs.size) { s3 with heap := pushCells (s3.heap.push { cls := .type "dict", data := .dict #[] }) scope.names }
  have nfp : ∀ b ∈ fp, (upd H2 D (.dT [])) b = none := fun b hb => (f3 b hb).1.1
  generalize hce : compEnvC scope (cellsFrom (s3.heap.objs.size + 1) scope.names (cloFrom X.env.cells scope.names [])) s3.heap.objs.size X.env = ce at I4 pg pt pk pe pi1 pg1 pt1 ⊢
  have cL : ce.locals = s3.heap.objs.size := by subst hce; rfl
  generalize hH3 : upd H2 D (.dT []) = H3 at I3 I4 pg pt pk pe pi1 pg1 pt1 w0 nfp f3
  generalize hs4 : ({ s3 with heap := pushCells (s3.heap.push { cls := .type "dict", data := .dict #[] }) scope.names } : Shared) = s4 at I4 ⊢
  have st4 : tn 0 s4.heap := T.keep _ _ _ st3 fun b _ o e => by rw [← hs4]; exact pushCells_keeps _ _ _ _ (Heap.get?_push_of_some _ e)
  have stat : ∀ {σ' : L2.St} {H' : Hp} {s' : Shared}, Inv (X.blk s3 H3 scope ce fp) [] σ' H' s' → (∀ b ∈ fp, H' b = none) → ∀ b ∈ fp, FpOk (X.blk s3 H3 scope ce fp) [] H' b := fun {σ' H' s'} I' hn b hb =>
    ⟨hn b hb, (I'.ok.exf b hb).1, I'.ok.exfs b hb, .inl hb, fun x c e => (I'.ok.exf b hb).2 x c e, fun p hp => absurd (show p ∈ ([] : List (Addr × Obj)) ++ [] from hp) (by simp)⟩
  have loop : codeAny (model X.prog X.w) X.A (.compLoop (.DictComp kx vx [⟨tg, iter, ifs, 0⟩, ⟨tg1, iter1, ifs1, 0⟩] scope pos) 0 (.ref it) (.ref D) ce) (compPost (model X.prog X.w) X.A X.xe use Qf (.ref D) s3.heap.objs.size) s4 := by
    refine loopD_out (hs1 ce) (fun n s' => ∃ i H', Inv (X.blk s3 H3 scope ce fp) [] (wipe σ (own.map (·.2))) H' s' ∧ tn i s'.heap ∧ (∀ b ∈ fp, H' b = none) ∧ W i n H') ?_ m0 ⟨0, H3, I4, st4, nfp, w0⟩
    rintro n s5 ⟨i, H5, I5, st5, n5, w5⟩
    rcases turn i n H5 w5 with ⟨stop, qq⟩ | ⟨go, Nx, hNx, step⟩
    · have td := T.done (X.blk s3 H3 scope ce fp) rfl rfl rfl hc i [] s5 _ H5 (fun _ _ => False) I5 (stat I5 n5) st5 stop
      refine thnF td fun r s6 ⟨hr, I6⟩ => ?_
      subst hr
      -- back in the def's context
      have I7 : Inv X pins σ H5 s6 := I3.call' (ch := fp) I6.os I6.base I6.hok I6.bare fun b hb => ⟨(f3 b hb).1.2.2.2.1, (f3 b hb).1.2.1, (f3 b hb).1.2.2.2.2.1, (f3 b hb).1.2.2.2.2.2⟩
      have nC : H5 s3.heap.objs.size = none := by
        have z : H5 ce.locals = none := I6.free
        rw [cL] at z
        exact z
      obtain ⟨m, hn, _⟩ := I6.loc
      have hn : s6.heap.Ns ce.locals m := hn
      rw [cL] at hn
      exact hRR D s3.heap.objs.size s6 m H5 I7 qq hn (I3.fpOk (Nat.le_refl _) nC)
    · have ti := T.item (X.blk s3 H3 scope ce fp) rfl rfl rfl hc i [] s5 _ H5 (fun _ _ => False) I5 (stat I5 n5) st5 go
      refine thnF ti fun r s6 ⟨u, hr, h6⟩ => ?_
      subst hr
      refine thnF h6 fun _ s7 ⟨x, H7, I7, r7, y7, st7, n7⟩ => ?_
      have I7' := I7.pinned (stat I7 n7) (T.obj _ _ st7)
      refine thnF (pg.run _ s7 _ H7 x u _ I7' r7 (step x H7 y7)) fun _ s8 ⟨σ8, H8, I8, hw8, q8⟩ => ?_
      refine thnF (pt.run _ s8 σ8 H8 _ I8 q8) fun b s9 ⟨H9, I9, q9⟩ => ?_
      -- the turn's end, from any slots that know what the block knew at its start
      have fin : ∀ {σ9 : L2.St} {s' : Shared} {H' : Hp}, Inv (X.blk s3 H3 scope ce fp) ([] ++ pinsAt fp s7.heap) σ9 H' s' → (wipe σ (own.map (·.2))).length = σ9.length → (∀ (j : Nat) v, (wipe σ (own.map (·.2)))[j]? = some (some v) → σ9[j]? = some (some v)) → Nx H' →
          ∃ m, m < n ∧ ∃ i H', Inv (X.blk s3 H3 scope ce fp) [] (wipe σ (own.map (·.2))) H' s' ∧ tn i s'.heap ∧ (∀ b ∈ fp, H' b = none) ∧ W i m H' := fun {σ9 s' H'} I' hl hk nx => by
        obtain ⟨m', hm, w'⟩ := hNx H' nx
        have pin' : ∀ b ∈ fp, ∀ o, s7.heap.get? b = some o → s'.heap.get? b = some o ∧ H' b = none := fun b hb o e =>
          let z := I'.pin (b, o) (List.mem_append_right _ (List.mem_append_right _ (mem_pinsAt hb e)))
          ⟨z.1, z.2.1⟩
        refine ⟨m', hm, i + 1, H', (I'.unpinned (pins := [])).weak hl hk, T.keep _ _ _ st7 fun b hb o e => (pin' b hb o e).1, fun b hb => ?_, w'⟩
        obtain ⟨o, e, _⟩ := T.obj _ _ st7 b hb
        exact (pin' b hb o e).2
      have hl8 : (wipe σ (own.map (·.2))).length = σ8.length := by rw [← hw8, wipe_length]
      have hk8 : ∀ (j : Nat) v, (wipe σ (own.map (·.2)))[j]? = some (some v) → σ8[j]? = some (some v) := fun j v e => by
        rw [← hw8] at e
        exact (wipe_some e).1
      have hk9 : ∀ (j : Nat) v, (wipe σ (own.map (·.2)))[j]? = some (some v) → (wipe σ8 vs1)[j]? = some (some v) := fun j v e => by
        rw [← hw8] at e
        obtain ⟨e1, e2⟩ := wipe_some e
        rw [wipe_out fun z => e2 (hv j z)]
        exact e1
      cases b with
      | false =>
        simp only [Bool.false_eq_true, if_false] at q9 ⊢
        exact fin I9 hl8 hk8 q9
      | true =>
        simp only [if_true] at q9 ⊢
        refine thnF (pi1.run _ s9 σ8 H9 _ I9 q9) fun xv s10 hx => thnF hx fun itv s11 h11 => ?_
        obtain ⟨it1, fp1, tn1, J1, H11, e1, I11, T1, st11, f11, W1, ⟨m1, w1⟩, turn1⟩ := h11
        subst e1
        -- the inner loop
        have stat1 : ∀ {H' : Hp}, (∀ b ∈ fp1, H' b = none) → ∀ b ∈ fp1, FpOk (X.blk s3 H3 scope ce fp) ([] ++ pinsAt fp s7.heap) H' b := fun hn b hb => ⟨hn b hb, (f11 b hb).2⟩
        have loop1 : codeAny (model X.prog X.w) X.A (.compLoop (.DictComp kx vx [⟨tg, iter, ifs, 0⟩, ⟨tg1, iter1, ifs1, 0⟩] scope pos) 1 (.ref it1) (.ref D) ce)
            (fun r s' => match r with
              | .ok _ => ∃ m, m < n ∧ ∃ i H', Inv (X.blk s3 H3 scope ce fp) [] (wipe σ (own.map (·.2))) H' s' ∧ tn i s'.heap ∧ (∀ b ∈ fp, H' b = none) ∧ W i m H'
              | .error _ => False) s11 := by
          refine loopD_in (fun k s' => ∃ j H', Inv (X.blk s3 H3 scope ce fp) ([] ++ pinsAt fp s7.heap) (wipe σ8 vs1) H' s' ∧ tn1 j s'.heap ∧ (∀ b ∈ fp1, H' b = none) ∧ W1 j k H') ?_ m1 ⟨0, H11, I11.weak (wipe_length _ _) (fun j v e => (wipe_some e).1), st11, fun b hb => (f11 b hb).1, w1⟩
          rintro k s12 ⟨j, H12, I12, st12, n12, w12⟩
          rcases turn1 j k H12 w12 with ⟨stop1, nx1⟩ | ⟨go1, Nx1, hNx1, step1⟩
          · refine thnF (T1.done (X.blk s3 H3 scope ce fp) rfl rfl rfl hc j _ s12 (wipe σ8 vs1) H12 (fun _ _ => False) I12 (stat1 n12) st12 stop1) fun r s13 ⟨hr, I13⟩ => ?_
            subst hr
            exact fin I13 (hl8.trans (wipe_length σ8 vs1).symm) hk9 nx1
          · refine thnF (T1.item (X.blk s3 H3 scope ce fp) rfl rfl rfl hc j _ s12 (wipe σ8 vs1) H12 (fun _ _ => False) I12 (stat1 n12) st12 go1) fun r s13 ⟨u1, hr, h13⟩ => ?_
            subst hr
            refine thnF h13 fun _ s14 ⟨x1, H14, I14, r14, y14, st14, n14⟩ => ?_
            have I14' := I14.pinned (stat1 n14) (T1.obj _ _ st14)
            refine thnF (pg1.run _ s14 (wipe σ8 vs1) H14 x1 u1 _ I14' r14 (step1 x1 H14 y14)) fun _ s15 ⟨σ15, H15, I15, hw15, q15⟩ => ?_
            refine thnF (pt1.run _ s15 σ15 H15 _ I15 q15) fun b1 s16 ⟨H16, I16, q16⟩ => ?_
            have fin1 : ∀ {s' : Shared} {H' : Hp}, Inv (X.blk s3 H3 scope ce fp) (([] ++ pinsAt fp s7.heap) ++ pinsAt fp1 s14.heap) σ15 H' s' → Nx1 H' → ∃ m, m < k ∧ ∃ j H', Inv (X.blk s3 H3 scope ce fp) ([] ++ pinsAt fp s7.heap) (wipe σ8 vs1) H' s' ∧ tn1 j s'.heap ∧ (∀ b ∈ fp1, H' b = none) ∧ W1 j m H' := fun {s' H'} I' nx => by
              obtain ⟨m', hm, w'⟩ := hNx1 H' nx
              have pin' : ∀ b ∈ fp1, ∀ o, s14.heap.get? b = some o → s'.heap.get? b = some o ∧ H' b = none := fun b hb o e =>
                let z := I'.pin (b, o) (List.mem_append_right _ (List.mem_append_right _ (mem_pinsAt hb e)))
                ⟨z.1, z.2.1⟩
              refine ⟨m', hm, j + 1, H', I'.unpinned.weak (by rw [← hw15, wipe_length]) (fun j v e => by rw [← hw15] at e; exact (wipe_some e).1), T1.keep _ _ _ st14 fun b hb o e => (pin' b hb o e).1, fun b hb => ?_, w'⟩
              obtain ⟨o, e, _⟩ := T1.obj _ _ st14 b hb
              exact (pin' b hb o e).2
            cases b1 with
            | false =>
              simp only [Bool.false_eq_true, if_false] at q16 ⊢
              exact fin1 I16 q16
            | true =>
              simp only [if_true] at q16 ⊢
              refine thnF (pk.run _ s16 σ15 H16 _ I16 q16) fun z s17 ⟨yk, H17, I17, r17, q17⟩ => ?_
              refine thnF (pe.run _ s17 σ15 H17 _ I17 q17) fun z2 s18 ⟨yv, H18, I18, r18, kvs, k, b2, ek, hb2, hD18, hz18, nx⟩ => ?_
              subst ek
              exact d_setT (X := X.blk s3 H3 scope ce fp) hu I18 hD18 hb2 hz18 r17 r18 fun s19 I19 => fin1 I19 nx
        exact startD_one loop1 (T1.self X.A 0 _ _ _ st11 loop1)
  exact codeAny_compStart_dict loop (T.self X.A 0 _ _ _ st4 loop)
/-- as a value -/
theorem pe_dcT {kx vx tg iter tg1 iter1 : Expr} {ifs ifs1 : List Expr} {scope : Scope} {own : List (Str × Nat)} {vs1 : List Nat} {pos : Pos} {wi wi1 : TI} {g g1 : TG} {tt tt1 : TT} {tk tv : TE} (hc : X.calm = true) (hu : X.A.units + 1 < cLine) (hN : X.N.Nodup) (hi : PI X tg iter wi) (ok : BlkOk X.N X.env.scope scope own) (hv : ∀ i ∈ vs1, i ∈ own.map (·.2))
    (hg : ∀ (s : Shared) (H : Hp) (C : Addr) (cl : List (Str × Addr)) (fp : List Addr), PG (X.blk s H scope (compEnvC scope cl C X.env) fp) tg g) (ht : ∀ (s : Shared) (H : Hp) (C : Addr) (cl : List (Str × Addr)) (fp : List Addr), PTs (X.blk s H scope (compEnvC scope cl C X.env) fp) ifs tt)
    (hi1 : ∀ (s : Shared) (H : Hp) (C : Addr) (cl : List (Str × Addr)) (fp : List Addr), PI (X.blk s H scope (compEnvC scope cl C X.env) fp) tg1 iter1 wi1)
    (hg1 : ∀ (s : Shared) (H : Hp) (C : Addr) (cl : List (Str × Addr)) (fp : List Addr), PG (X.blk s H scope (compEnvC scope cl C X.env) fp) tg1 g1) (ht1 : ∀ (s : Shared) (H : Hp) (C : Addr) (cl : List (Str × Addr)) (fp : List Addr), PTs (X.blk s H scope (compEnvC scope cl C X.env) fp) ifs1 tt1)
    (hk : ∀ (s : Shared) (H : Hp) (C : Addr) (cl : List (Str × Addr)) (fp : List Addr), PE (X.blk s H scope (compEnvC scope cl C X.env) fp) kx tk)
    (he : ∀ (s : Shared) (H : Hp) (C : Addr) (cl : List (Str × Addr)) (fp : List Addr), PE (X.blk s H scope (compEnvC scope cl C X.env) fp) vx tv) (hs : ∀ x, foldedSetIterable iter X.env x = pure x := by intro _; rfl) (hs1 : ∀ env x, foldedSetIterable iter1 env x = pure x := by intro _ _; rfl) :
    PE X (.DictComp kx vx [⟨tg, iter, ifs, 0⟩, ⟨tg1, iter1, ifs1, 0⟩] scope pos) (tDcT wi g tt wi1 g1 tt1 tk tv (own.map (·.2)) vs1) := by
  refine ⟨fun pins s σ H Q I h => ?_⟩
  rw [arm_eval_DictComp]
  refine dcT_core hc hu hN I hi ok hv hg ht hk he hs hi1 hg1 ht1 hs1 h fun D C s' m H' I' q hn f => ⟨m, hn, fun h'' sb => ?_⟩
  obtain ⟨f0, f1, f2, f3, f4, f5⟩ := f
  exact ⟨.ref D, H', I'.turned (t' := s'.toks) (fun b o hb e => (sb.2 b hb).trans e) f0 f1 f3 f4 f5, rfl, q⟩
end
end SF
namespace SF
open PySem PySem.Spec PyProof.Rows L2
section
variable {α β γ κ : Type} [DecidableEq κ]
def M.dc1 (k : β → M κ) (v : β → M γ) : List β → List (κ × γ) → M (List (κ × γ))
  | [], d => .ok d
  | y :: r, d => (k y).nox.bd fun key => (v y).nox.bd fun val => (M.put d key val).bd fun d' => M.dc1 k v r d'
def M.dc2 (inner : α → M (List β)) (k : α → β → M κ) (v : α → β → M γ) : List α → List (κ × γ) → M (List (κ × γ))
  | [], d => .ok d
  | x :: r, d => (inner x).nox.bd fun ys => (M.dc1 (k x) (v x) ys d).bd fun d' => M.dc2 inner k v r d'
theorem put_ok {d : List (κ × γ)} {k : κ} {x : γ} : (∃ y, M.put d k x = .ok y) ∨ M.put d k x = .bad := gd_or
theorem dc1_or {k : β → M κ} {v : β → M γ} : ∀ (ys : List β) (d : List (κ × γ)), (∃ z, M.dc1 k v ys d = .ok z) ∨ M.dc1 k v ys d = .bad
  | [], d => .inl ⟨_, rfl⟩
  | y :: r, d => by
    unfold M.dc1
    cases k y with
    | bad => exact .inr rfl
    | exc e => exact .inr rfl
    | ok key =>
      cases v y with
      | bad => exact .inr rfl
      | exc e => exact .inr rfl
      | ok val =>
        show (∃ z, (M.put d key val).bd _ = _) ∨ (M.put d key val).bd _ = _
        rcases put_ok (d := d) (k := key) (x := val) with ⟨d', h⟩ | h
        · rw [h]; exact dc1_or r d'
        · rw [h]; exact .inr rfl
theorem dc2_or {inner : α → M (List β)} {k : α → β → M κ} {v : α → β → M γ} : ∀ (xs : List α) (d : List (κ × γ)), (∃ z, M.dc2 inner k v xs d = .ok z) ∨ M.dc2 inner k v xs d = .bad
  | [], d => .inl ⟨_, rfl⟩
  | x :: r, d => by
    unfold M.dc2
    cases inner x with
    | bad => exact .inr rfl
    | exc e => exact .inr rfl
    | ok ys =>
      show (∃ z, (M.dc1 (k x) (v x) ys d).bd _ = _) ∨ (M.dc1 (k x) (v x) ys d).bd _ = _
      rcases dc1_or (k := k x) (v := v x) ys d with ⟨d', h⟩ | h
      · rw [h]; exact dc2_or r d'
      · rw [h]; exact .inr rfl
variable {w w' : Xw} {σ : L2.St} {F H : Hp}
theorem yes_in {A B : Hp → Prop} {σ : L2.St} {H : Hp} (h : A H) : tYes σ H (fun b H3 => if b = true then A H3 else B H3) := by
  show (if true = true then A H else B H)
  exact iteT h
theorem e_dcT2 {wi wi1 : TI} {g g1 : TG} {tk tv : TE} {vs vs1 : List Nat} {r : Rl α} {r1 : Rl β} {rk : Rl κ} [Mono rk] {enc : κ → List Key} [KT rk enc] {rv : Rl γ} [Mono rv] {m : M (List α)} {inner : α → M (List β)} {k : α → β → M κ} {v : α → β → M γ}
    (hi : EvC w (wi σ) (iw r) m F H) (Tg : Hp → α → L2.St → Prop) (hT : ∀ {F F' x σ2}, Same F F' → Tg F x σ2 → Tg F' x σ2)
    (hg : ∀ {x v F4 H4} (Q : L2.St → Hp → Prop), Same F4 H4 → r F4 v x → (∀ σ2, wipe σ2 vs = wipe σ vs → Tg F4 x σ2 → Q σ2 H4) → g v (wipe σ vs) H4 Q)
    (hin : ∀ x σ2 F4 H4, Xt F H F4 H4 → Tg F4 x σ2 → EvC w' (wi1 σ2) (iwF r1) (inner x) F4 H4) (Tg1 : Hp → α → β → L2.St → Prop)
    (hg1 : ∀ {x y σ2 v F4 H4} (Q : L2.St → Hp → Prop), Tg F4 x σ2 → Same F4 H4 → r1 F4 v y → (∀ σ3, wipe σ3 vs1 = wipe σ2 vs1 → Tg1 F4 x y σ3 → Q σ3 H4) → g1 v (wipe σ2 vs1) H4 Q)
    (hk : ∀ x y σ3 F4 H4, Xt F H F4 H4 → Tg1 F4 x y σ3 → EvC w' (tk σ3) (fz rk) (k x y) F4 H4) (hv : ∀ x y σ3 F4 H4, Xt F H F4 H4 → Tg1 F4 x y σ3 → EvC w' (tv σ3) (fz rv) (v x y) F4 H4) :
    EvC w (tDcT wi g tYes wi1 g1 tYes tk tv vs vs1 σ) (dnT enc rv) (m.bd fun xs => M.dc2 inner k v xs []) F H := by
  refine EvC.bind (D := fun J H1 (Q : VK) => ∀ D, H1 D = none → ∃ W : Nat → Nat → Hp → Prop, (∃ m, W 0 m (upd H1 D (.dT []))) ∧ ∀ i m H, W i m H →
    (J.stop i H ∧ Q (.ref D) H) ∨ (J.go i H ∧ ∃ Nx : Hp → Prop, (∀ H', Nx H' → ∃ m', m' < m ∧ W (i + 1) m' H') ∧ ∀ x H', J.yld i H x H' → g x (wipe σ vs) H' fun σ2 H2 => wipe σ2 vs = wipe σ vs ∧ tYes σ2 H2 fun b H3 =>
      if b = true then wi1 σ2 H3 fun J1 H4 => ∃ W1 : Nat → Nat → Hp → Prop, (∃ m, W1 0 m H4) ∧ ∀ j k H, W1 j k H →
        (J1.stop j H ∧ Nx H) ∨ (J1.go j H ∧ ∃ Nx1 : Hp → Prop, (∀ H', Nx1 H' → ∃ k', k' < k ∧ W1 (j + 1) k' H') ∧ ∀ x H', J1.yld j H x H' → g1 x (wipe σ2 vs1) H' fun σ3 H5 => wipe σ3 vs1 = wipe σ2 vs1 ∧ tYes σ3 H5 fun b H6 =>
          if b = true then tk σ3 H6 fun y H7 => tv σ3 H7 fun z H8 => ∃ kvs k b, y = .ref b ∧ H8 b = some (.tup (k.map kV)) ∧ H8 D = some (.dT kvs) ∧ kvs.length < sizeLine ∧ Nx1 (upd H8 D (.dT (putK kvs k z))) else Nx1 H6)
      else Nx H3)) (R' := dnT enc rv) hi fun xs J F1 H1 F2 H2 e1 e2 hw => ?_
  obtain ⟨⟨G, Y, wk, hG, hY⟩, hz⟩ := hw
  have e12 := e1.trans e2
  cases hm : M.dc2 inner k v xs [] with
  | bad => trivial
  | exc e => rcases dc2_or (inner := inner) (k := k) (v := v) xs [] with ⟨z, h⟩ | h <;> rw [h] at hm <;> cases hm
  | ok zs =>
    intro Q q D hD
    refine ⟨fun i n H' => n = xs.length - i ∧ i ≤ xs.length ∧ ∃ F' kvs d, Xt F2 H2 F' H' ∧ F' D = none ∧ H' D = some (.dT kvs) ∧ AD enc rv F' kvs d ∧ d.length ≤ sizeLine ∧ M.dc2 inner k v (xs.drop i) d = .ok zs,
      ⟨xs.length, by simp, Nat.zero_le _, F2, [], [], (Xt.refl e2.fh).newM hD, e2.fh.free hD, upd_same, .nil, Nat.zero_le _, hm⟩, ?_⟩
    rintro i n H4 ⟨rfl, hi, F4, kvs, d, e4, f4, hD4, ad4, hd4, hrs⟩
    by_cases hlt : i < xs.length
    · refine .inr ⟨wk.goes i H4 hlt (hG F4 H4 e4), fun H' => ∃ F' kvs d, Xt F2 H2 F' H' ∧ F' D = none ∧ H' D = some (.dT kvs) ∧ AD enc rv F' kvs d ∧ d.length ≤ sizeLine ∧ M.dc2 inner k v (xs.drop (i + 1)) d = .ok zs,
        fun H' h => ⟨xs.length - (i + 1), by omega, rfl, hlt, h⟩, fun u H5 hy => ?_⟩
      obtain ⟨F5, x, hx, e5, hr⟩ := hY i H4 u H5 F4 hlt e4.ff e4.fh (wk.yields i H4 u H5 hlt (hG F4 H4 e4) hy)
      have f5 : F5 D = none := e5.nf D (by rw [hD4]; trivial) f4
      have hD5 := e5.hh _ _ hD4
      have hdrop : xs.drop i = x :: xs.drop (i + 1) := by
        rw [List.drop_eq_getElem_cons hlt]
        congr 1
        rw [List.getElem?_eq_getElem hlt] at hx
        exact Option.some.inj hx
      rw [hdrop] at hrs
      unfold M.dc2 at hrs
      refine hg _ e5.fh hr fun σ2 hw2 ht => ⟨hw2, yes_in ?_⟩
      have hin1 := hin x σ2 F5 H5 ((e12.trans e4).trans e5) ht F5 H5 (Xt.refl e5.fh)
      cases hix : inner x with
      | bad => rw [hix] at hrs; cases hrs
      | exc e => rw [hix] at hrs; cases hrs
      | ok ys =>
        rw [hix] at hrs hin1
        refine hin1 _ fun J1 F6 H6 e6 hw1 => ?_
        obtain ⟨⟨G1, Y1, wk1, hG1, hY1⟩, hz1⟩ := hw1
        have hrs : ((M.dc1 (k x) (v x) ys d).bd fun d' => M.dc2 inner k v (xs.drop (i + 1)) d') = .ok zs := hrs
        have f6 : F6 D = none := e6.nf D (by rw [hD5]; trivial) f5
        have hD6 := e6.hh _ _ hD5
        have e46 := (e4.trans e5).trans e6
        refine ⟨fun j n H' => n = ys.length - j ∧ j ≤ ys.length ∧ ∃ F' kvs d, Xt F2 H2 F' H' ∧ Same F6 F' ∧ F' D = none ∧ H' D = some (.dT kvs) ∧ AD enc rv F' kvs d ∧ d.length ≤ sizeLine ∧ ((M.dc1 (k x) (v x) (ys.drop j) d).bd fun d' => M.dc2 inner k v (xs.drop (i + 1)) d') = .ok zs,
          ⟨ys.length, by simp, Nat.zero_le _, F6, kvs, d, e46, Same.refl _, f6, hD6, ad4.mono (e5.ff.trans e6.ff), hd4, hrs⟩, ?_⟩
        rintro j n H7 ⟨rfl, hj, F7, kvs7, d7, e7, s67, f7, hD7, ad7, hd7, hrs7⟩
        by_cases hlt1 : j < ys.length
        · refine .inr ⟨wk1.goes j H7 hlt1 (hG1 F7 H7 s67 e7.fh), fun H' => ∃ F' kvs d, Xt F2 H2 F' H' ∧ Same F6 F' ∧ F' D = none ∧ H' D = some (.dT kvs) ∧ AD enc rv F' kvs d ∧ d.length ≤ sizeLine ∧ ((M.dc1 (k x) (v x) (ys.drop (j + 1)) d).bd fun d' => M.dc2 inner k v (xs.drop (i + 1)) d') = .ok zs,
            fun H' h => ⟨ys.length - (j + 1), by omega, rfl, hlt1, h⟩, fun u8 H8 hy8 => ?_⟩
          obtain ⟨F8, y, hx8, e8, hr8⟩ := hY1 j H7 u8 H8 F7 hlt1 s67 e7.fh (wk1.yields j H7 u8 H8 hlt1 (hG1 F7 H7 s67 e7.fh) hy8)
          have f8 : F8 D = none := e8.nf D (by rw [hD7]; trivial) f7
          have hD8 := e8.hh _ _ hD7
          have hdrop8 : ys.drop j = y :: ys.drop (j + 1) := by
            rw [List.drop_eq_getElem_cons hlt1]
            congr 1
            rw [List.getElem?_eq_getElem hlt1] at hx8
            exact Option.some.inj hx8
          rw [hdrop8] at hrs7
          unfold M.dc1 at hrs7
          have e78 := e7.trans e8
          refine hg1 _ (hT ((e5.ff.trans e6.ff).trans (s67.trans e8.ff) |> fun s => (e6.ff.trans (s67.trans e8.ff))) ht) e8.fh hr8 fun σ3 hw3 ht3 => ⟨hw3, yes_in ?_⟩
          have hk1 := hk x y σ3 F8 H8 (e12.trans e78) ht3 F8 H8 (Xt.refl e8.fh)
          have hv1 := hv x y σ3 F8 H8 (e12.trans e78) ht3
          cases hkx : k x y with
          | bad => rw [hkx] at hrs7; cases hrs7
          | exc e => rw [hkx] at hrs7; cases hrs7
          | ok key =>
            rw [hkx] at hrs7 hk1
            refine hk1 _ fun u9 F9 H9 e9 hu9 => ?_
            have hv2 := hv1 F9 H9 e9
            cases hvx : v x y with
            | bad => rw [hvx] at hrs7; cases hrs7
            | exc e => rw [hvx] at hrs7; cases hrs7
            | ok val =>
              rw [hvx] at hrs7 hv2
              refine hv2 _ fun u10 F10 H10 e10 hu10 => ?_
              have hrs7 : (((M.put d7 key val).bd fun d' => M.dc1 (k x) (v x) (ys.drop (j + 1)) d').bd fun d' => M.dc2 inner k v (xs.drop (i + 1)) d') = .ok zs := hrs7
              rcases put_ok (d := d7) (k := key) (x := val) with ⟨d', hp⟩ | hp
              · rw [hp] at hrs7
                obtain ⟨hl, rfl⟩ := gd_ok hp
                obtain ⟨b, rfl, hb⟩ := KT.kt (r := rk) (enc := enc) hu9
                have e710 := (e8.trans e9).trans e10
                have f10 : F10 D = none := e710.nf D (by rw [hD7]; trivial) f7
                have hD10 := e710.hh _ _ hD7
                refine ⟨kvs7, _, b, rfl, e10.fh _ _ (e10.ff _ _ hb), hD10, by rw [ad7.len]; exact hl, F10, _, _, (e7.trans e710).set hD f10, s67.trans e710.ff, f10, upd_same, AD.put (KT.inj (r := rk) (enc := enc)) hu10 (ad7.mono e710.ff), ?_, hrs7⟩
                rw [aPut_length]
                split <;> omega
              · rw [hp] at hrs7; cases hrs7
        · have ej : j = ys.length := by omega
          subst ej
          rw [List.drop_length] at hrs7
          exact .inl ⟨wk1.stops H7 (hG1 F7 H7 s67 e7.fh), F7, kvs7, d7, e7, f7, hD7, ad7, hd7, hrs7⟩
    · have ei : i = xs.length := by omega
      subst ei
      refine .inl ⟨wk.stops H4 (hG F4 H4 e4), ?_⟩
      rw [List.drop_length] at hrs
      injection hrs with hrs
      subst hrs
      exact q _ _ _ e4 ⟨D, kvs, rfl, hD, f4, hD4, ad4, hd4⟩
section
variable {w : Xw} {σ : L2.St} {F H : Hp} {K : PySem.W.Frag} {α : Type}
/-- [*xs, ..] -/
theorem al_star {r : Rl α} [Mono r] {t : TE} {ts : TA} {m : M (List α)} {T : ∀ {γ : Type}, (List α → M γ) → M γ} (ha : EvC w (t σ) (lb r) m F H) (hs : EvA w ts σ (ral r) T F H) :
    EvA w (StX.tStar K t ts) σ (ral r) (fun f => m.bd fun x => T fun xs => f (x ++ xs)) F H := fun F0 H0 e0 ω γ D R' _ f k => by
  refine EvN.bind (D := fun v H Q => ∃ p xs, v = V.ref p ∧ (SqT K H p xs ∨ SqL K H p xs) ∧ ts σ H fun ys H' => D (xs ++ ys) H' Q) (ha F0 H0 e0) fun x v F2 H2 e2 hr => ?_
  obtain ⟨a, vs, rfl, hh, al, hz⟩ := hr
  have key : EvN w (fun H Q => ts σ H fun ys H' => D (vs ++ ys) H' Q) R' (T fun xs => f (x ++ xs)) F2 H2 := hs F2 H2 (e0.trans e2) (fun ys => D (vs ++ ys)) R' (fun xs => f (x ++ xs)) fun xs ys F3 H3 e3 hrs => k (x ++ xs) (vs ++ ys) F3 H3 (e2.trans e3) (Al.app (al.mono e3.ff) hrs)
  cases hn : (T fun xs => f (x ++ xs)) with
  | bad => trivial
  | exc e => rw [hn] at key; exact fun o Q => ⟨a, vs, rfl, .inr (SqL.of hh), key o Q⟩
  | ok y => rw [hn] at key; exact fun Q q => ⟨a, vs, rfl, .inr (SqL.of hh), key Q q⟩
theorem bd_inv {β : Type} {m : M α} {k : α → M β} {y : β} (h : m.bd k = .ok y) : ∃ x, m = .ok x ∧ k x = .ok y := by
  cases m with
  | ok x => exact ⟨x, rfl, h⟩
  | exc e => cases h
  | bad => cases h
theorem EvC.at {ω : Type} {C : Hp → (ω → Hp → Prop) → Prop} {R : Hp → Hp → Hp → ω → α → Prop} {m : M α} {x : α} (h : EvC w C R m F H) (e : m = .ok x) (s : Same F H) {Q : ω → Hp → Prop} (k : ∀ v F2 H2, Xt F H F2 H2 → R H F2 H2 v x → Q v H2) : C H Q := by
  have h1 := h F H (Xt.refl s)
  rw [e] at h1
  exact h1 Q k
end
end
section
variable {X : Cx} {K : PySem.W.Frag}
theorem pa_starK {e : Expr} {es : List Expr} {te : TE} {t : TA} {p : Pos} (he : PE X e te) (hr : PA X es t) (hs : starEach (.Starred e p :: es) X.env = (true, eval e X.env) :: starEach es X.env := by rfl) (h : X.K = K := by rfl) : PA X (.Starred e p :: es) (StX.tStar K te t) := by subst h; exact StX.pa_star he hr hs
end
section
variable {w : Xw} {σ : L2.St} {F H : Hp} {α : Type} {ta : TE}
theorem e_lenDT {κ : Type} [DecidableEq κ] {enc : κ → List Key} {r : Rl α} [Mono r] {m : M (List (κ × α))} (ha : EvC w (ta σ) (dbT enc r) m F H) : EvC w (tCB L2.rLenT (tCons ta tNil) σ) (fz rNat) (m.bd fun x => .ok x.length) F H :=
  e_cb1 ha (fun _ => .inl ⟨_, rfl⟩) fun hz h1 s Q q => by
    cases hz
    obtain ⟨a, vs, rfl, e, al, _⟩ := h1
    exact ⟨a, vs, rfl, e, by rw [al.len]; exact q _ _ _ (Xt.refl s) rfl⟩
end
end SF
/-! ### {x for a in xs for b in ys}, texts -/
namespace SF
open PySem PySem.Spec PyProof.Rows L2 PySem.Froz
theorem addT_ok {X : Cx} {pins : List (Addr × Obj)} {σ : L2.St} {H : Hp} {s : Shared} {E : Value → Shared → Prop} {D : Addr} {l : List Str} {k : Str} {u : Tok} {Q : Value → Shared → Prop} (I : Inv X pins σ H s) (hD : H D = some (TSO X.prog X.w D l)) (room : l.length + 1 < scanBound)
    (h : ∀ s', Inv X pins σ (upd H D (TSO X.prog X.w D (if k ∈ l then l else k :: l))) s' → Q .none s') : wpAny (model X.prog X.w) X.A (call (.builtin "set.add") [.ref D, .str k u]) Q E s := by
  have R : TS X.prog X.w s.heap D l := (I.hok D _ hD).1
  have hS : s.TypeIs (.ref D) "set" := by
    obtain ⟨D0, ho, _⟩ := R
    exact ⟨_, ho, rfl⟩
  refine wpAny_call_entry F.slot_set_add hS F.entry_set_add ?_ (F.args_set_add_2 _ _)
  unfold Builtin.«set.add» Builtin.Frozenset.oneOther
  simp only [List.isEmpty_nil, bind_assoc]
  unfold Builtin.Frozenset.addrOf setAdd
  refine wpAny_bind (wpAny_pure ?_)
  try dsimp only
  refine wpAny_bind (wpAny_pure ?_)
  try dsimp only
  refine wpAny_bind ?_
  refine wpAny_holding ?_
  refine wpAny_bind ((strKind X.prog X.w).pyHash (is_str k u) ?_)
  refine TS.add (s := { s with toks := s.toks + 1 }) R room fun b h' sb new => ?_
  have he : ∃ z, h'.get? D = some z := by
    have ⟨D1, ho, _⟩ := new
    exact ⟨_, ho⟩
  show wpAny _ _ (ret Value.none) _ _ _
  exact wpAny_pure ⟨_, rfl, h _ (I.write (e := D) (t' := s.toks + 1) (by rw [hD]; trivial) (.inl rfl) (fun b z hb hu => (sb.2 b hb).trans hu) he (tso_ok new))⟩
theorem turnZ_out (ex t0 i0 t1 i1 : Expr) (ifs0 ifs1 : List Expr) (scope : Scope) (pos : Pos) (it : Value) (D : Addr) (env : Env) :
    compTurn (.SetComp ex [⟨t0, i0, ifs0, 0⟩, ⟨t1, i1, ifs1, 0⟩] scope pos) 0 it (.ref D) env = (do
      standAt i0.pos
      match ← pyNext it with
      | none => pure (.done .next)
      | some v =>
        letOwnedTupleGo t0 it v
        assign t0 env v
        let mut ok := true
        for c in ifs0 do
          if ok then ok ← isTrue c env (eval c env)
        if ok then
          let x ← eval i1 env
          standAt i1.pos
          let x ← foldedSetIterable i1 env x
          let _ ← runOwn (.compStart (.SetComp ex [⟨t0, i0, ifs0, 0⟩, ⟨t1, i1, ifs1, 0⟩] scope pos) 1 (← holding [x] (pyIter x)) (.ref D) env) env
        again (.compLoop (.SetComp ex [⟨t0, i0, ifs0, 0⟩, ⟨t1, i1, ifs1, 0⟩] scope pos) 0 it (.ref D) env)) := by rfl
theorem turnZ_in (ex t0 i0 t1 i1 : Expr) (ifs0 ifs1 : List Expr) (scope : Scope) (pos : Pos) (it : Value) (D : Addr) (env : Env) :
    compTurn (.SetComp ex [⟨t0, i0, ifs0, 0⟩, ⟨t1, i1, ifs1, 0⟩] scope pos) 1 it (.ref D) env = (do
      standAt i1.pos
      match ← pyNext it with
      | none => pure (.done .next)
      | some v =>
        letOwnedTupleGo t1 it v
        assign t1 env v
        let mut ok := true
        for c in ifs1 do
          if ok then ok ← isTrue c env (eval c env)
        if ok then
          (do let v ← eval ex env; standAt ex.pos; let _ ← call (.builtin "set.add") [.ref D, v])
        again (.compLoop (.SetComp ex [⟨t0, i0, ifs0, 0⟩, ⟨t1, i1, ifs1, 0⟩] scope pos) 1 it (.ref D) env)) := by rfl

section
variable {prog : Program} {w : World} {A : Around} {R : Result → Shared → Prop} {s : Shared} {ex t0 i0 t1 i1 : Expr} {ifs0 ifs1 : List Expr} {scope : Scope} {pos : Pos} {it : Value} {D : Addr} {env : Env}
/-- the loop of the first clause -/
theorem loopZ_out (hs : ∀ x, foldedSetIterable i1 env x = pure x) (I : Nat → Shared → Prop)
    (turn : ∀ n s, I n s → wpAny (model prog w) A (pyNext it) (fun r s₁ => match r with
      | none => R (.ok .next) s₁
      | some v => wpAny (model prog w) A (letOwnedTupleGo t0 it v) (fun _ s₁' => wpAny (model prog w) A (assign t0 env v) (fun _ s₂ =>
          wpAny (model prog w) A (forIn ifs0 true fun c r => if r = true then do let ok ← isTrue c env (eval c env); pure (ForInStep.yield ok) else pure (ForInStep.yield r)) (fun ok s₃ =>
            if ok = true then wpAny (model prog w) A (eval i1 env) (fun x s₄ => wpAny (model prog w) A (pyIter x) (fun it1 s₅ =>
              codeAny (model prog w) A (.compStart (.SetComp ex [⟨t0, i0, ifs0, 0⟩, ⟨t1, i1, ifs1, 0⟩] scope pos) 1 it1 (.ref D) env) (fun r s' => match r with
                | .ok _ => ∃ m, m < n ∧ I m s'
                | .error _ => False) s₅) (notedBy (model prog w) A env fun e s' => R (.error e) s') s₄) (notedBy (model prog w) A env fun e s' => R (.error e) s') s₃
            else ∃ m, m < n ∧ I m s₃) (notedBy (model prog w) A env fun e s' => R (.error e) s') s₂) (notedBy (model prog w) A env fun e s' => R (.error e) s') s₁') (notedBy (model prog w) A env fun e s' => R (.error e) s') s₁) (notedBy (model prog w) A env fun e s' => R (.error e) s') s)
    (n : Nat) (h : I n s) :
    codeAny (model prog w) A (.compLoop (.SetComp ex [⟨t0, i0, ifs0, 0⟩, ⟨t1, i1, ifs1, 0⟩] scope pos) 0 it (.ref D) env) R s := by
  refine codeAny_loop rfl I (fun n s hI => ?_) n h
  show wpAny _ A ((compTurn (.SetComp ex [⟨t0, i0, ifs0, 0⟩, ⟨t1, i1, ifs1, 0⟩] scope pos) 0 it (.ref D) env).onRaise (fun x => do noteFrame x env; theTreesLotGoes x)) _ _ s
  refine wpAny_noted ?_
  rw [turnZ_out]
  refine wpAny_bind (wpAny_standAt (wpAny_bind (wpAny_mono (turn n s hI) (fun r s₁ h₁ => ?_) fun _ _ h' => h')))
  cases r with
  | none => exact wpAny_pure h₁
  | some v =>
    refine wpAny_bind (wpAny_mono h₁ (fun _ s₁' h₁' => ?_) fun _ _ h' => h')
    refine wpAny_bind (wpAny_mono h₁' (fun _ s₂ h₂ => wpAny_bind (wpAny_mono h₂ (fun ok s₃ h₃ => ?_) fun _ _ h' => h')) fun _ _ h' => h')
    cases ok with
    | false => exact wpAny_pure ⟨rfl, h₃⟩
    | true =>
      refine wpAny_bind (wpAny_mono h₃ (fun x s₄ h₄ => ?_) fun _ _ h' => h')
      refine wpAny_bind (wpAny_standAt (wpAny_bind (wpAny_of_eq (hs x) (wpAny_bind (wpAny_holding (wpAny_mono h₄ (fun it1 s₅ h₅ => ?_) fun _ _ h' => h'))))))
      refine wpAny_bind (wpAny_runOwn ?_)
      rw [Around.mark_none]
      refine codeAny_mono h₅ fun r s' hr => ?_
      cases r with
      | ok f =>
        first
          | exact wpAny_pure ⟨rfl, hr⟩
          | exact wpAny_bind (wpAny_pure (wpAny_pure ⟨rfl, hr⟩))
      | error e => exact hr.elim
/-- the loop of the second -/
theorem loopZ_in (I : Nat → Shared → Prop)
    (turn : ∀ n s, I n s → wpAny (model prog w) A (pyNext it) (fun r s₁ => match r with
      | none => R (.ok .next) s₁
      | some v => wpAny (model prog w) A (letOwnedTupleGo t1 it v) (fun _ s₁' => wpAny (model prog w) A (assign t1 env v) (fun _ s₂ =>
          wpAny (model prog w) A (forIn ifs1 true fun c r => if r = true then do let ok ← isTrue c env (eval c env); pure (ForInStep.yield ok) else pure (ForInStep.yield r)) (fun ok s₃ =>
            if ok = true then wpAny (model prog w) A (eval ex env) (fun x s₄ =>
              wpAny (model prog w) A (call (.builtin "set.add") [.ref D, x]) (fun _ s₅ => ∃ m, m < n ∧ I m s₅) (notedBy (model prog w) A env fun e s' => R (.error e) s') s₄) (notedBy (model prog w) A env fun e s' => R (.error e) s') s₃
            else ∃ m, m < n ∧ I m s₃) (notedBy (model prog w) A env fun e s' => R (.error e) s') s₂) (notedBy (model prog w) A env fun e s' => R (.error e) s') s₁') (notedBy (model prog w) A env fun e s' => R (.error e) s') s₁) (notedBy (model prog w) A env fun e s' => R (.error e) s') s)
    (n : Nat) (h : I n s) :
    codeAny (model prog w) A (.compLoop (.SetComp ex [⟨t0, i0, ifs0, 0⟩, ⟨t1, i1, ifs1, 0⟩] scope pos) 1 it (.ref D) env) R s := by
  refine codeAny_loop rfl I (fun n s hI => ?_) n h
  show wpAny _ A ((compTurn (.SetComp ex [⟨t0, i0, ifs0, 0⟩, ⟨t1, i1, ifs1, 0⟩] scope pos) 1 it (.ref D) env).onRaise (fun x => do noteFrame x env; theTreesLotGoes x)) _ _ s
  refine wpAny_noted ?_
  rw [turnZ_in]
  refine wpAny_bind (wpAny_standAt (wpAny_bind (wpAny_mono (turn n s hI) (fun r s₁ h₁ => ?_) fun _ _ h' => h')))
  cases r with
  | none => exact wpAny_pure h₁
  | some v =>
    refine wpAny_bind (wpAny_mono h₁ (fun _ s₁' h₁' => ?_) fun _ _ h' => h')
    refine wpAny_bind (wpAny_mono h₁' (fun _ s₂ h₂ => wpAny_bind (wpAny_mono h₂ (fun ok s₃ h₃ => ?_) fun _ _ h' => h')) fun _ _ h' => h')
    cases ok with
    | false => exact wpAny_pure ⟨rfl, h₃⟩
    | true =>
      exact wpAny_bind (wpAny_bind (wpAny_mono h₃ (fun x s₄ h₄ => wpAny_bind (wpAny_standAt (wpAny_bind (wpAny_mono h₄ (fun _ s₅ h₅ => wpAny_pure (wpAny_pure ⟨rfl, h₅⟩)) fun _ _ h' => h')))) fun _ _ h' => h'))
/-- the second clause's start -/
theorem startZ_one (h0 : codeAny (model prog w) A (.compLoop (.SetComp ex [⟨t0, i0, ifs0, 0⟩, ⟨t1, i1, ifs1, 0⟩] scope pos) 1 it (.ref D) env) R s)
    (h : wpAny (model prog w) A (pyIter it) (fun it' s' => codeAny (model prog w) A (.compLoop (.SetComp ex [⟨t0, i0, ifs0, 0⟩, ⟨t1, i1, ifs1, 0⟩] scope pos) 1 it' (.ref D) env) R s')
      (notedBy (model prog w) A env fun x s' => R (.error x) s') s) :
    codeAny (model prog w) A (.compStart (.SetComp ex [⟨t0, i0, ifs0, 0⟩, ⟨t1, i1, ifs1, 0⟩] scope pos) 1 it (.ref D) env) R s := by
  refine codeAny_of_tree ?_
  show wpAny _ _ ((compStart (.SetComp ex [⟨t0, i0, ifs0, 0⟩, ⟨t1, i1, ifs1, 0⟩] scope pos) 1 it (.ref D) env).onRaise (fun x => do noteFrame x env; standAt theWindowsPlace)) _ _ s
  refine wpAny_notedAt ?_
  unfold compStart
  show wpAny _ _ (ask >>= _) _ _ s
  refine wpAny_bind (wpAny_askSetting (wpAny_ite ?_))
  split
  · first
      | exact wpAny_bind (wpAny_pure (wpAny_pure (And.intro rfl h0)))
      | exact wpAny_pure (And.intro rfl h0)
  · first
      | exact wpAny_bind (wpAny_rule (wpAny_bind (wpAny_standAt (wpAny_bind (wpAny_mono h (fun it' s' h' => wpAny_pure (And.intro rfl h')) fun _ _ x => x)))))
      | (refine wpAny_bind (wpAny_rule ?_); show wpAny _ _ (standAt i1.pos >>= _) _ _ s; exact wpAny_bind (wpAny_standAt (wpAny_bind (wpAny_mono h (fun it' s' h' => wpAny_pure (And.intro rfl h')) fun _ _ x => x))))
end

section
variable {X : Cx}
def tScT (P : Program) (w : World) (wi : TI) (g : TG) (tt : TT) (wi1 : TI) (g1 : TG) (tt1 : TT) (te : TE) (vs vs1 : List Nat) : TE := fun σ H Q => wi σ H fun J H1 => ∀ D, H1 D = none → ∃ W : Nat → Nat → Hp → Prop, (∃ m, W 0 m (upd H1 D (TSO P w D []))) ∧ ∀ i m H, W i m H →
  (J.stop i H ∧ Q (.ref D) H) ∨ (J.go i H ∧ ∃ Nx : Hp → Prop, (∀ H', Nx H' → ∃ m', m' < m ∧ W (i + 1) m' H') ∧ ∀ x H', J.yld i H x H' → g x (wipe σ vs) H' fun σ2 H2 => wipe σ2 vs = wipe σ vs ∧ tt σ2 H2 fun b H3 =>
    if b = true then wi1 σ2 H3 fun J1 H4 => ∃ W1 : Nat → Nat → Hp → Prop, (∃ m, W1 0 m H4) ∧ ∀ j k H, W1 j k H →
      (J1.stop j H ∧ Nx H) ∨ (J1.go j H ∧ ∃ Nx1 : Hp → Prop, (∀ H', Nx1 H' → ∃ k', k' < k ∧ W1 (j + 1) k' H') ∧ ∀ x H', J1.yld j H x H' → g1 x (wipe σ2 vs1) H' fun σ3 H5 => wipe σ3 vs1 = wipe σ2 vs1 ∧ tt1 σ3 H5 fun b H6 =>
        if b = true then te σ3 H6 fun y H7 => ∃ l k, y = V.str k ∧ H7 D = some (TSO P w D l) ∧ l.length + 1 < scanBound ∧ Nx1 (upd H7 D (TSO P w D (if k ∈ l then l else k :: l))) else Nx1 H6)
    else Nx H3)
theorem scT_core {pins : List (Addr × Obj)} {s : Shared} {σ : L2.St} {H : Hp} {Q : VK} {ex tg iter tg1 iter1 : Expr} {ifs ifs1 : List Expr} {scope : Scope} {own : List (Str × Nat)} {vs1 : List Nat} {pos pos' : Pos} {wi wi1 : TI} {g g1 : TG} {tt tt1 : TT} {te : TE} {use : Option (Value → Sem Unit)} {Qf : Value → Shared → Prop}
    (hc : X.calm = true) (hN : X.N.Nodup) (I : Inv X pins σ H s) (hi : PI X tg iter wi) (ok : BlkOk X.N X.env.scope scope own) (hv : ∀ i ∈ vs1, i ∈ own.map (·.2))
    (hg : ∀ (s : Shared) (H : Hp) (C : Addr) (cl : List (Str × Addr)) (fp : List Addr), PG (X.blk s H scope (compEnvC scope cl C X.env) fp) tg g) (ht : ∀ (s : Shared) (H : Hp) (C : Addr) (cl : List (Str × Addr)) (fp : List Addr), PTs (X.blk s H scope (compEnvC scope cl C X.env) fp) ifs tt)
    (he : ∀ (s : Shared) (H : Hp) (C : Addr) (cl : List (Str × Addr)) (fp : List Addr), PE (X.blk s H scope (compEnvC scope cl C X.env) fp) ex te) (hs : ∀ x, foldedSetIterable iter X.env x = pure x)
    (hi1 : ∀ (s : Shared) (H : Hp) (C : Addr) (cl : List (Str × Addr)) (fp : List Addr), PI (X.blk s H scope (compEnvC scope cl C X.env) fp) tg1 iter1 wi1)
    (hg1 : ∀ (s : Shared) (H : Hp) (C : Addr) (cl : List (Str × Addr)) (fp : List Addr), PG (X.blk s H scope (compEnvC scope cl C X.env) fp) tg1 g1)
    (ht1 : ∀ (s : Shared) (H : Hp) (C : Addr) (cl : List (Str × Addr)) (fp : List Addr), PTs (X.blk s H scope (compEnvC scope cl C X.env) fp) ifs1 tt1)
    (hs1 : ∀ env x, foldedSetIterable iter1 env x = pure x)
    (h : tScT X.prog X.w wi g tt wi1 g1 tt1 te (own.map (·.2)) vs1 σ H Q)
    (hRR : ∀ D C s' m H', Inv X pins σ H' s' → Q (.ref D) H' → s'.heap.Ns C m → FpOk X pins H' C → compPost (model X.prog X.w) X.A X.xe use Qf (.ref D) C (.ok .next) s') :
    wpAny (model X.prog X.w) X.A (comprehension (.SetComp ex [⟨tg, iter, ifs, 0⟩, ⟨tg1, iter1, ifs1, 0⟩] scope pos) scope X.env pos' (newSet (.type "set")) false (eval iter X.env) use) Qf X.xe s := by
  have hfree : ∀ y ∈ scope.names, y.2 = .free → ∃ c, X.env.cells.lookup y.1 = some c := fun y hy e => by
    rcases ok.free y hy e with k | k
    · exact I.ok.has _ (.inl k)
    · exact I.ok.has _ (.inr k)
  refine wpAny_comprehension_free (use := use) rfl hs (closure_ok hfree) ok.kind (fun y hy e => by rw [ok.uniq y hy, e])
    (thn (hi.run pins s σ H _ I h) fun xv s1 hx => thn hx fun itv s2 h2 => ?_)
  obtain ⟨it, fp, tn, J, H2, e, I2, T, st2, f2, q⟩ := h2
  subst e
  refine PpSet.newSet_ok (newEnv_comp ?_)
  generalize hD : s2.heap.objs.size = D
  have hDn : H2 D = none := I2.hok.fresh (Nat.le_of_eq hD)
  obtain ⟨W, ⟨m0, w0⟩, turn⟩ := q D hDn
  -- the new list
  generalize hs3 : ({ s2 with heap := s2.heap.push (set0 X.w) } : Shared) = s3
  have I3 : Inv X pins σ (upd H2 D (TSO X.prog X.w D [])) s3 := by
    rw [← hs3]
    refine I2.laid (t' := s2.toks) (fun b o e => Heap.get?_push_of_some _ e) (Nat.le_of_eq hD) ?_
    rw [← hD]
    exact tso_ok (TS.fresh (Heap.get?_push_size _ rfl))
  have h3 : s3.heap = s2.heap.push (set0 X.w) := by rw [← hs3]
  have sz : ∀ b ∈ fp, b < s2.heap.objs.size := fun b hb => by
    obtain ⟨o, e, _⟩ := T.obj _ _ st2 b hb
    exact Heap.lt_size e
  have f3 : ∀ b ∈ fp, FpOk X pins (upd H2 D (TSO X.prog X.w D [])) b ∧ b < s3.heap.objs.size := fun b hb => by
    have hlt := sz b hb
    refine ⟨⟨?_, (f2 b hb).2⟩, by rw [h3, Heap.size_push]; exact Nat.lt_succ_of_lt hlt⟩
    rw [upd_ne (by rw [← hD]; exact Nat.ne_of_lt hlt)]
    exact (f2 b hb).1
  have st3 : tn 0 s3.heap := T.keep _ _ _ st2 fun b _ o e => by rw [h3]; exact Heap.get?_push_of_some _ e
  have I4 := block_start I3 ok hN f3
  have pg := hg s3 (upd H2 D (TSO X.prog X.w D [])) s3.heap.objs.size (cellsFrom (s3.heap.objs.size + 1) scope.names (cloFrom X.env.cells scope.names [])) fp
  have pt := ht s3 (upd H2 D (TSO X.prog X.w D [])) s3.heap.objs.size (cellsFrom (s3.heap.objs.size + 1) scope.names (cloFrom X.env.cells scope.names [])) fp
  have pe := he s3 (upd H2 D (TSO X.prog X.w D [])) s3.heap.objs.size (cellsFrom (s3.heap.objs.size + 1) scope.names (cloFrom X.env.cells scope.names [])) fp
  have pi1 := hi1 s3 (upd H2 D (TSO X.prog X.w D [])) s3.heap.objs.size (cellsFrom (s3.heap.objs.size + 1) scope.names (cloFrom X.env.cells scope.names [])) fp
  have pg1 := hg1 s3 (upd H2 D (TSO X.prog X.w D [])) s3.heap.objs.size (cellsFrom (s3.heap.objs.size + 1) scope.names (cloFrom X.env.cells scope.names [])) fp
  have pt1 := ht1 s3 (upd H2 D (TSO X.prog X.w D [])) s3.heap.objs.size (cellsFrom (s3.heap.objs.size + 1) scope.names (cloFrom X.env.cells scope.names [])) fp
  show codeAny _ _ (.compStart (.SetComp ex [⟨tg, iter, ifs, 0⟩, ⟨tg1, iter1, ifs1, 0⟩] scope pos) 0 (.ref it) (.ref D) (compEnvC scope (cellsFrom (s3.heap.objs.size + 1) scope.names (cloFrom X.env.cells scope.names [])) s3.heap.objs.size X.env)) (compPost (model X.prog X.w) X.A X.xe use Qf (.ref D) s3.heap.objs.size) { s3 with heap := pushCells (s3.heap.push { cls := .type "dict", data := .dict #[] }) scope.names }
  have nfp : ∀ b ∈ fp, (upd H2 D (TSO X.prog X.w D [])) b = none := fun b hb => (f3 b hb).1.1
  generalize hce : compEnvC scope (cellsFrom (s3.heap.objs.size + 1) scope.names (cloFrom X.env.cells scope.names [])) s3.heap.objs.size X.env = ce at I4 pg pt pe pi1 pg1 pt1 ⊢
  have cL : ce.locals = s3.heap.objs.size := by subst hce; rfl
  generalize hH3 : upd H2 D (TSO X.prog X.w D []) = H3 at I3 I4 pg pt pe pi1 pg1 pt1 w0 nfp f3
  generalize hs4 : ({ s3 with heap := pushCells (s3.heap.push { cls := .type "dict", data := .dict #[] }) scope.names } : Shared) = s4 at I4 ⊢
  have st4 : tn 0 s4.heap := T.keep _ _ _ st3 fun b _ o e => by rw [← hs4]; exact pushCells_keeps _ _ _ _ (Heap.get?_push_of_some _ e)
  have stat : ∀ {σ' : L2.St} {H' : Hp} {s' : Shared}, Inv (X.blk s3 H3 scope ce fp) [] σ' H' s' → (∀ b ∈ fp, H' b = none) → ∀ b ∈ fp, FpOk (X.blk s3 H3 scope ce fp) [] H' b := fun {σ' H' s'} I' hn b hb =>
    ⟨hn b hb, (I'.ok.exf b hb).1, I'.ok.exfs b hb, .inl hb, fun x c e => (I'.ok.exf b hb).2 x c e, fun p hp => absurd (show p ∈ ([] : List (Addr × Obj)) ++ [] from hp) (by simp)⟩
  have loop : codeAny (model X.prog X.w) X.A (.compLoop (.SetComp ex [⟨tg, iter, ifs, 0⟩, ⟨tg1, iter1, ifs1, 0⟩] scope pos) 0 (.ref it) (.ref D) ce) (compPost (model X.prog X.w) X.A X.xe use Qf (.ref D) s3.heap.objs.size) s4 := by
    refine loopZ_out (hs1 ce) (fun n s' => ∃ i H', Inv (X.blk s3 H3 scope ce fp) [] (wipe σ (own.map (·.2))) H' s' ∧ tn i s'.heap ∧ (∀ b ∈ fp, H' b = none) ∧ W i n H') ?_ m0 ⟨0, H3, I4, st4, nfp, w0⟩
    rintro n s5 ⟨i, H5, I5, st5, n5, w5⟩
    rcases turn i n H5 w5 with ⟨stop, qq⟩ | ⟨go, Nx, hNx, step⟩
    · have td := T.done (X.blk s3 H3 scope ce fp) rfl rfl rfl hc i [] s5 _ H5 (fun _ _ => False) I5 (stat I5 n5) st5 stop
      refine thnF td fun r s6 ⟨hr, I6⟩ => ?_
      subst hr
      -- back in the def's context
      have I7 : Inv X pins σ H5 s6 := I3.call' (ch := fp) I6.os I6.base I6.hok I6.bare fun b hb => ⟨(f3 b hb).1.2.2.2.1, (f3 b hb).1.2.1, (f3 b hb).1.2.2.2.2.1, (f3 b hb).1.2.2.2.2.2⟩
      have nC : H5 s3.heap.objs.size = none := by
        have z : H5 ce.locals = none := I6.free
        rw [cL] at z
        exact z
      obtain ⟨m, hn, _⟩ := I6.loc
      have hn : s6.heap.Ns ce.locals m := hn
      rw [cL] at hn
      exact hRR D s3.heap.objs.size s6 m H5 I7 qq hn (I3.fpOk (Nat.le_refl _) nC)
    · have ti := T.item (X.blk s3 H3 scope ce fp) rfl rfl rfl hc i [] s5 _ H5 (fun _ _ => False) I5 (stat I5 n5) st5 go
      refine thnF ti fun r s6 ⟨u, hr, h6⟩ => ?_
      subst hr
      refine thnF h6 fun _ s7 ⟨x, H7, I7, r7, y7, st7, n7⟩ => ?_
      have I7' := I7.pinned (stat I7 n7) (T.obj _ _ st7)
      refine thnF (pg.run _ s7 _ H7 x u _ I7' r7 (step x H7 y7)) fun _ s8 ⟨σ8, H8, I8, hw8, q8⟩ => ?_
      refine thnF (pt.run _ s8 σ8 H8 _ I8 q8) fun b s9 ⟨H9, I9, q9⟩ => ?_
      -- the turn's end, from any slots that know what the block knew at its start
      have fin : ∀ {σ9 : L2.St} {s' : Shared} {H' : Hp}, Inv (X.blk s3 H3 scope ce fp) ([] ++ pinsAt fp s7.heap) σ9 H' s' → (wipe σ (own.map (·.2))).length = σ9.length → (∀ (j : Nat) v, (wipe σ (own.map (·.2)))[j]? = some (some v) → σ9[j]? = some (some v)) → Nx H' →
          ∃ m, m < n ∧ ∃ i H', Inv (X.blk s3 H3 scope ce fp) [] (wipe σ (own.map (·.2))) H' s' ∧ tn i s'.heap ∧ (∀ b ∈ fp, H' b = none) ∧ W i m H' := fun {σ9 s' H'} I' hl hk nx => by
        obtain ⟨m', hm, w'⟩ := hNx H' nx
        have pin' : ∀ b ∈ fp, ∀ o, s7.heap.get? b = some o → s'.heap.get? b = some o ∧ H' b = none := fun b hb o e =>
          let z := I'.pin (b, o) (List.mem_append_right _ (List.mem_append_right _ (mem_pinsAt hb e)))
          ⟨z.1, z.2.1⟩
        refine ⟨m', hm, i + 1, H', (I'.unpinned (pins := [])).weak hl hk, T.keep _ _ _ st7 fun b hb o e => (pin' b hb o e).1, fun b hb => ?_, w'⟩
        obtain ⟨o, e, _⟩ := T.obj _ _ st7 b hb
        exact (pin' b hb o e).2
      have hl8 : (wipe σ (own.map (·.2))).length = σ8.length := by rw [← hw8, wipe_length]
      have hk8 : ∀ (j : Nat) v, (wipe σ (own.map (·.2)))[j]? = some (some v) → σ8[j]? = some (some v) := fun j v e => by
        rw [← hw8] at e
        exact (wipe_some e).1
      have hk9 : ∀ (j : Nat) v, (wipe σ (own.map (·.2)))[j]? = some (some v) → (wipe σ8 vs1)[j]? = some (some v) := fun j v e => by
        rw [← hw8] at e
        obtain ⟨e1, e2⟩ := wipe_some e
        rw [wipe_out fun z => e2 (hv j z)]
        exact e1
      cases b with
      | false =>
        simp only [Bool.false_eq_true, if_false] at q9 ⊢
        exact fin I9 hl8 hk8 q9
      | true =>
        simp only [if_true] at q9 ⊢
        refine thnF (pi1.run _ s9 σ8 H9 _ I9 q9) fun xv s10 hx => thnF hx fun itv s11 h11 => ?_
        obtain ⟨it1, fp1, tn1, J1, H11, e1, I11, T1, st11, f11, W1, ⟨m1, w1⟩, turn1⟩ := h11
        subst e1
        -- the inner loop
        have stat1 : ∀ {H' : Hp}, (∀ b ∈ fp1, H' b = none) → ∀ b ∈ fp1, FpOk (X.blk s3 H3 scope ce fp) ([] ++ pinsAt fp s7.heap) H' b := fun hn b hb => ⟨hn b hb, (f11 b hb).2⟩
        have loop1 : codeAny (model X.prog X.w) X.A (.compLoop (.SetComp ex [⟨tg, iter, ifs, 0⟩, ⟨tg1, iter1, ifs1, 0⟩] scope pos) 1 (.ref it1) (.ref D) ce)
            (fun r s' => match r with
              | .ok _ => ∃ m, m < n ∧ ∃ i H', Inv (X.blk s3 H3 scope ce fp) [] (wipe σ (own.map (·.2))) H' s' ∧ tn i s'.heap ∧ (∀ b ∈ fp, H' b = none) ∧ W i m H'
              | .error _ => False) s11 := by
          refine loopZ_in (fun k s' => ∃ j H', Inv (X.blk s3 H3 scope ce fp) ([] ++ pinsAt fp s7.heap) (wipe σ8 vs1) H' s' ∧ tn1 j s'.heap ∧ (∀ b ∈ fp1, H' b = none) ∧ W1 j k H') ?_ m1 ⟨0, H11, I11.weak (wipe_length _ _) (fun j v e => (wipe_some e).1), st11, fun b hb => (f11 b hb).1, w1⟩
          rintro k s12 ⟨j, H12, I12, st12, n12, w12⟩
          rcases turn1 j k H12 w12 with ⟨stop1, nx1⟩ | ⟨go1, Nx1, hNx1, step1⟩
          · refine thnF (T1.done (X.blk s3 H3 scope ce fp) rfl rfl rfl hc j _ s12 (wipe σ8 vs1) H12 (fun _ _ => False) I12 (stat1 n12) st12 stop1) fun r s13 ⟨hr, I13⟩ => ?_
            subst hr
            exact fin I13 (hl8.trans (wipe_length σ8 vs1).symm) hk9 nx1
          · refine thnF (T1.item (X.blk s3 H3 scope ce fp) rfl rfl rfl hc j _ s12 (wipe σ8 vs1) H12 (fun _ _ => False) I12 (stat1 n12) st12 go1) fun r s13 ⟨u1, hr, h13⟩ => ?_
            subst hr
            refine thnF h13 fun _ s14 ⟨x1, H14, I14, r14, y14, st14, n14⟩ => ?_
            have I14' := I14.pinned (stat1 n14) (T1.obj _ _ st14)
            refine thnF (pg1.run _ s14 (wipe σ8 vs1) H14 x1 u1 _ I14' r14 (step1 x1 H14 y14)) fun _ s15 ⟨σ15, H15, I15, hw15, q15⟩ => ?_
            refine thnF (pt1.run _ s15 σ15 H15 _ I15 q15) fun b1 s16 ⟨H16, I16, q16⟩ => ?_
            have fin1 : ∀ {s' : Shared} {H' : Hp}, Inv (X.blk s3 H3 scope ce fp) (([] ++ pinsAt fp s7.heap) ++ pinsAt fp1 s14.heap) σ15 H' s' → Nx1 H' → ∃ m, m < k ∧ ∃ j H', Inv (X.blk s3 H3 scope ce fp) ([] ++ pinsAt fp s7.heap) (wipe σ8 vs1) H' s' ∧ tn1 j s'.heap ∧ (∀ b ∈ fp1, H' b = none) ∧ W1 j m H' := fun {s' H'} I' nx => by
              obtain ⟨m', hm, w'⟩ := hNx1 H' nx
              have pin' : ∀ b ∈ fp1, ∀ o, s14.heap.get? b = some o → s'.heap.get? b = some o ∧ H' b = none := fun b hb o e =>
                let z := I'.pin (b, o) (List.mem_append_right _ (List.mem_append_right _ (mem_pinsAt hb e)))
                ⟨z.1, z.2.1⟩
              refine ⟨m', hm, j + 1, H', I'.unpinned.weak (by rw [← hw15, wipe_length]) (fun j v e => by rw [← hw15] at e; exact (wipe_some e).1), T1.keep _ _ _ st14 fun b hb o e => (pin' b hb o e).1, fun b hb => ?_, w'⟩
              obtain ⟨o, e, _⟩ := T1.obj _ _ st14 b hb
              exact (pin' b hb o e).2
            cases b1 with
            | false =>
              simp only [Bool.false_eq_true, if_false] at q16 ⊢
              exact fin1 I16 q16
            | true =>
              simp only [if_true] at q16 ⊢
              refine thnF (pe.run _ s16 σ15 H16 _ I16 q16) fun z s17 ⟨yk, H17, I17, r17, l0, k0, ek, hD17, hz17, nx⟩ => ?_
              subst ek
              obtain ⟨tk0, rfl⟩ : ∃ t, z = Value.str k0 t := r17
              exact addT_ok (X := X.blk s3 H3 scope ce fp) I17 hD17 hz17 fun s19 I19 => fin1 I19 nx
        exact startZ_one loop1 (T1.self X.A 0 _ _ _ st11 loop1)
  exact PpSet.codeAny_compStart_set loop (T.self X.A 0 _ _ _ st4 loop)
/-- as a value -/
theorem pe_scT {ex tg iter tg1 iter1 : Expr} {ifs ifs1 : List Expr} {scope : Scope} {own : List (Str × Nat)} {vs1 : List Nat} {pos : Pos} {wi wi1 : TI} {g g1 : TG} {tt tt1 : TT} {te : TE} (hc : X.calm = true) (hN : X.N.Nodup) (hi : PI X tg iter wi) (ok : BlkOk X.N X.env.scope scope own) (hv : ∀ i ∈ vs1, i ∈ own.map (·.2))
    (hg : ∀ (s : Shared) (H : Hp) (C : Addr) (cl : List (Str × Addr)) (fp : List Addr), PG (X.blk s H scope (compEnvC scope cl C X.env) fp) tg g) (ht : ∀ (s : Shared) (H : Hp) (C : Addr) (cl : List (Str × Addr)) (fp : List Addr), PTs (X.blk s H scope (compEnvC scope cl C X.env) fp) ifs tt)
    (hi1 : ∀ (s : Shared) (H : Hp) (C : Addr) (cl : List (Str × Addr)) (fp : List Addr), PI (X.blk s H scope (compEnvC scope cl C X.env) fp) tg1 iter1 wi1)
    (hg1 : ∀ (s : Shared) (H : Hp) (C : Addr) (cl : List (Str × Addr)) (fp : List Addr), PG (X.blk s H scope (compEnvC scope cl C X.env) fp) tg1 g1) (ht1 : ∀ (s : Shared) (H : Hp) (C : Addr) (cl : List (Str × Addr)) (fp : List Addr), PTs (X.blk s H scope (compEnvC scope cl C X.env) fp) ifs1 tt1)
    (he : ∀ (s : Shared) (H : Hp) (C : Addr) (cl : List (Str × Addr)) (fp : List Addr), PE (X.blk s H scope (compEnvC scope cl C X.env) fp) ex te) (hs : ∀ x, foldedSetIterable iter X.env x = pure x := by intro _; rfl) (hs1 : ∀ env x, foldedSetIterable iter1 env x = pure x := by intro _ _; rfl) :
    PE X (.SetComp ex [⟨tg, iter, ifs, 0⟩, ⟨tg1, iter1, ifs1, 0⟩] scope pos) (tScT X.prog X.w wi g tt wi1 g1 tt1 te (own.map (·.2)) vs1) := by
  refine ⟨fun pins s σ H Q I h => ?_⟩
  rw [PpSet.eval_SetComp]
  refine scT_core hc hN I hi ok hv hg ht he hs hi1 hg1 ht1 hs1 h fun D C s' m H' I' q hn f => ⟨m, hn, fun h'' sb => ?_⟩
  obtain ⟨f0, f1, f2, f3, f4, f5⟩ := f
  exact ⟨.ref D, H', I'.turned (t' := s'.toks) (fun b o hb e => (sb.2 b hb).trans e) f0 f1 f3 f4 f5, rfl, q⟩
theorem pe_scTK {P : Program} {w : World} {ex tg iter tg1 iter1 : Expr} {ifs ifs1 : List Expr} {scope : Scope} {own : List (Str × Nat)} {vs1 : List Nat} {pos : Pos} {wi wi1 : TI} {g g1 : TG} {tt tt1 : TT} {te : TE} (hc : X.calm = true) (hN : X.N.Nodup) (hi : PI X tg iter wi) (ok : BlkOk X.N X.env.scope scope own) (hv : ∀ i ∈ vs1, i ∈ own.map (·.2))
    (hg : ∀ (s : Shared) (H : Hp) (C : Addr) (cl : List (Str × Addr)) (fp : List Addr), PG (X.blk s H scope (compEnvC scope cl C X.env) fp) tg g) (ht : ∀ (s : Shared) (H : Hp) (C : Addr) (cl : List (Str × Addr)) (fp : List Addr), PTs (X.blk s H scope (compEnvC scope cl C X.env) fp) ifs tt)
    (hi1 : ∀ (s : Shared) (H : Hp) (C : Addr) (cl : List (Str × Addr)) (fp : List Addr), PI (X.blk s H scope (compEnvC scope cl C X.env) fp) tg1 iter1 wi1)
    (hg1 : ∀ (s : Shared) (H : Hp) (C : Addr) (cl : List (Str × Addr)) (fp : List Addr), PG (X.blk s H scope (compEnvC scope cl C X.env) fp) tg1 g1) (ht1 : ∀ (s : Shared) (H : Hp) (C : Addr) (cl : List (Str × Addr)) (fp : List Addr), PTs (X.blk s H scope (compEnvC scope cl C X.env) fp) ifs1 tt1)
    (he : ∀ (s : Shared) (H : Hp) (C : Addr) (cl : List (Str × Addr)) (fp : List Addr), PE (X.blk s H scope (compEnvC scope cl C X.env) fp) ex te) (hs : ∀ x, foldedSetIterable iter X.env x = pure x := by intro _; rfl) (hs1 : ∀ env x, foldedSetIterable iter1 env x = pure x := by intro _ _; rfl) (hP : X.prog = P := by rfl) (hw : X.w = w := by rfl) :
    PE X (.SetComp ex [⟨tg, iter, ifs, 0⟩, ⟨tg1, iter1, ifs1, 0⟩] scope pos) (tScT P w wi g tt wi1 g1 tt1 te (own.map (·.2)) vs1) := by subst hP hw; exact pe_scT hc hN hi ok hv hg ht hi1 hg1 ht1 he hs hs1
end
end SF
/-! ### == of nested data, isinstance -/
namespace SF
open PySem PySem.Spec PyProof.Rows L2
class Deep {α : Type} [DecidableEq α] (r : Rl α) where
  pd : α → PyData
  okd : α → Bool
  dmax : Nat
  dp : ∀ {K : PySem.W.Frag} {F H : Hp} {v : V} {x : α}, Same F H → r F v x → Dp K H v (pd x)
  lay : ∀ {x : α}, okd x = true → (pd x).canLay0 = true
  dep : ∀ x, (pd x).depth ≤ dmax
  eqv : ∀ x y, PyData.eqv (pd x) (pd y) = decide (x = y)
theorem strOk_le {l : List Nat} (h : l.all (fun c => decide (c < 1114112)) = true) : PyData.strOk (S l) = true := by
  unfold PyData.strOk
  rw [Array.all_eq_true]
  intro i hi
  have h1 : (S l).cps[i] ∈ l := by
    have : (S l).cps[i] = l[i]'(by simpa using hi) := by simp
    rw [this]
    exact List.getElem_mem _
  exact List.all_eq_true.mp h _ h1
theorem eqv_str (x y : List Nat) : PyData.eqv (.str (S x)) (.str (S y)) = decide (x = y) := by
  unfold PyData.eqv
  by_cases h : x = y
  · subst h; simp
  · rw [decide_eq_false h]
    exact beq_eq_false_iff_ne.mpr fun e => h (S_inj.mp e)
instance deepU : Deep rNat where
  pd n := .int n
  okd _ := true
  dmax := 0
  dp := fun _ h => by rw [show _ = _ from h]; exact .int _
  lay := fun _ => rfl
  dep := fun _ => Nat.le_refl _
  eqv := fun x y => by
    show ((x : Int) == (y : Int)) = _
    by_cases h : x = y
    · subst h; simp
    · rw [decide_eq_false h]; exact beq_eq_false_iff_ne.mpr fun e => h (by omega)
instance deepI : Deep rI where
  pd n := .int n
  okd _ := true
  dmax := 0
  dp := fun _ h => by rw [show _ = _ from h]; exact .int _
  lay := fun _ => rfl
  dep := fun _ => Nat.le_refl _
  eqv := fun x y => by
    show (x == y) = _
    by_cases h : x = y
    · subst h; simp
    · rw [decide_eq_false h]; exact beq_eq_false_iff_ne.mpr h
instance deepB : Deep rB where
  pd n := .bool n
  okd _ := true
  dmax := 0
  dp := fun _ h => by rw [show _ = _ from h]; exact .bl _
  lay := fun _ => rfl
  dep := fun _ => Nat.le_refl _
  eqv := fun x y => by
    show (x == y) = _
    cases x <;> cases y <;> rfl
instance deepC : Deep rC where
  pd c := .str (S [c])
  okd c := decide (c < 1114112)
  dmax := 0
  dp := fun _ h => by rw [show _ = _ from h]; exact .str _
  lay := fun {c} h => strOk_le (l := [c]) (by simpa using h)
  dep := fun _ => Nat.le_refl _
  eqv := fun x y => by rw [eqv_str]; simp
instance deepS : Deep qS where
  pd l := .str (S l)
  okd l := l.all fun c => decide (c < 1114112)
  dmax := 0
  dp := fun _ h => by rw [h.1]; exact .str _
  lay := fun h => strOk_le h
  dep := fun _ => Nat.le_refl _
  eqv := eqv_str
section
variable {α β γ : Type} [DecidableEq α] [DecidableEq β] [DecidableEq γ]
instance deepP {r : Rl α} {s : Rl β} [Deep r] [Deep s] : Deep (rP r s) where
  pd x := .tuple [Deep.pd r x.1, Deep.pd s x.2]
  okd x := Deep.okd r x.1 && Deep.okd s x.2
  dmax := Nat.max (Deep.dmax r) (Deep.dmax s) + 1
  dp := fun e h => by
    obtain ⟨a, u, w, rfl, h0, h1, h2⟩ := h
    exact .tup (SqT.of (e _ _ h0)) (.cons (Deep.dp e h1) (.cons (Deep.dp e h2) .nil))
  lay := fun h => by
    rw [Bool.and_eq_true] at h
    simp only [PyData.canLay0, PyData.canLayAll0, Deep.lay h.1, Deep.lay h.2, Bool.and_self]
  dep := fun x => by
    have h1 := Deep.dep (r := r) x.1
    have h2 := Deep.dep (r := s) x.2
    simp only [PyData.depth, PyData.depthAll]
    have := Nat.le_max_left (Deep.dmax r) (Deep.dmax s)
    have := Nat.le_max_right (Deep.dmax r) (Deep.dmax s)
    show max _ (max _ 0) + 1 ≤ max (Deep.dmax r) (Deep.dmax s) + 1
    omega
  eqv := fun x y => by
    simp only [PyData.eqv, PyData.eqvAll, Deep.eqv, Bool.and_true]
    obtain ⟨x1, x2⟩ := x
    obtain ⟨y1, y2⟩ := y
    by_cases h1 : x1 = y1 <;> by_cases h2 : x2 = y2 <;> simp [h1, h2]
instance deepT {r : Rl α} {s : Rl β} {t : Rl γ} [Deep r] [Deep s] [Deep t] : Deep (qT3 r s t) where
  pd x := .tuple [Deep.pd r x.1, Deep.pd s x.2.1, Deep.pd t x.2.2]
  okd x := Deep.okd r x.1 && Deep.okd s x.2.1 && Deep.okd t x.2.2
  dmax := Nat.max (Nat.max (Deep.dmax r) (Deep.dmax s)) (Deep.dmax t) + 1
  dp := fun e h => by
    obtain ⟨a, u, w, z, rfl, h0, h1, h2, h3⟩ := h
    exact .tup (SqT.of (e _ _ h0)) (.cons (Deep.dp e h1) (.cons (Deep.dp e h2) (.cons (Deep.dp e h3) .nil)))
  lay := fun h => by
    rw [Bool.and_eq_true, Bool.and_eq_true] at h
    simp only [PyData.canLay0, PyData.canLayAll0, Deep.lay h.1.1, Deep.lay h.1.2, Deep.lay h.2, Bool.and_self]
  dep := fun x => by
    have h1 := Deep.dep (r := r) x.1
    have h2 := Deep.dep (r := s) x.2.1
    have h3 := Deep.dep (r := t) x.2.2
    simp only [PyData.depth, PyData.depthAll]
    show max _ (max _ (max _ 0)) + 1 ≤ max (max (Deep.dmax r) (Deep.dmax s)) (Deep.dmax t) + 1
    omega
  eqv := fun x y => by
    simp only [PyData.eqv, PyData.eqvAll, Deep.eqv, Bool.and_true]
    obtain ⟨x1, x2, x3⟩ := x
    obtain ⟨y1, y2, y3⟩ := y
    by_cases h1 : x1 = y1 <;> by_cases h2 : x2 = y2 <;> by_cases h3 : x3 = y3 <;> simp [h1, h2, h3]
theorem dpall {K : PySem.W.Frag} {r : Rl α} [Deep r] {F H : Hp} (s : Same F H) : ∀ {vs : List V} {xs : List α}, Al r F vs xs → DpAll K H vs (xs.map (Deep.pd r))
  | _, _, .nil => .nil
  | _, _, .cons h t => .cons (Deep.dp s h) (dpall s t)
theorem layall {r : Rl α} [Deep r] : ∀ {xs : List α}, xs.all (Deep.okd r) = true → PyData.canLayAll0 (xs.map (Deep.pd r)) = true
  | [], _ => rfl
  | x :: xs, h => by
    rw [List.all_cons, Bool.and_eq_true] at h
    simp only [List.map_cons, PyData.canLayAll0, Deep.lay h.1, layall h.2, Bool.and_self]
theorem depall {r : Rl α} [Deep r] : ∀ xs : List α, PyData.depthAll (xs.map (Deep.pd r)) ≤ Deep.dmax r
  | [] => Nat.zero_le _
  | x :: xs => by
    have h1 := Deep.dep (r := r) x
    have h2 := depall (r := r) xs
    simp only [List.map_cons, PyData.depthAll]
    omega
theorem eqvall {r : Rl α} [Deep r] : ∀ xs ys : List α, PyData.eqvAll (xs.map (Deep.pd r)) (ys.map (Deep.pd r)) = decide (xs = ys)
  | [], [] => rfl
  | [], _ :: _ => rfl
  | _ :: _, [] => rfl
  | x :: xs, y :: ys => by
    simp only [List.map_cons, PyData.eqvAll, Deep.eqv, eqvall xs ys]
    by_cases h1 : x = y <;> by_cases h2 : xs = ys <;> simp [h1, h2]
instance deepL {r : Rl α} [Deep r] : Deep (qL r) where
  pd xs := .list (xs.map (Deep.pd r))
  okd xs := xs.all (Deep.okd r)
  dmax := Deep.dmax r + 1
  dp := fun e h => by
    obtain ⟨a, vs, rfl, h0, al, _⟩ := h
    exact .lst (SqL.of (e _ _ h0)) (dpall e al)
  lay := fun h => by simp only [PyData.canLay0, layall h]
  dep := fun x => by
    have := depall (r := r) x
    simp only [PyData.depth]
    omega
  eqv := fun x y => by simp only [PyData.eqv, eqvall]
theorem lb_dp {K : PySem.W.Frag} {r : Rl α} [Deep r] {H0 F H : Hp} {v : V} {x : List α} (e : Same F H) (h : lb r H0 F H v x) : Dp K H v (Deep.pd (qL r) x) := by
  obtain ⟨a, vs, rfl, h0, al, _⟩ := h
  exact .lst (SqL.of h0) (dpall e al)
theorem deep_shaped {r : Rl α} [Deep r] {x : α} (h : Deep.okd r x = true) (hd : Deep.dmax r ≤ 64) : SeqAt.shaped (Deep.pd r x) = true := by
  unfold SeqAt.shaped
  rw [Deep.lay h, Bool.true_and, decide_eq_true_eq]
  exact Nat.le_trans (Deep.dep x) hd
variable {w : Xw} {σ : L2.St} {F H : Hp} {K : PySem.W.Frag} {ta tb : TE}
theorem e_eqD {r : Rl α} [Mono r] [Deep r] {m n : M α} (hd : Deep.dmax r ≤ 64) (ha : EvC w (ta σ) (fz r) m F H) (hb : EvC w (tb σ) (fz r) n F H) : EvC w (tOp (rEqD K) ta tb σ) (fz rB) (m.bd fun x => n.bd fun y => M.gd (Deep.okd r x = true ∧ Deep.okd r y = true) (.ok (decide (x = y)))) F H :=
  e_op ha hb (fun _ _ => gd_or) fun hz h1 h2 s Q q => by
    obtain ⟨⟨o1, o2⟩, rfl⟩ := gd_ok hz
    exact ⟨_, _, Deep.dp s h1, Deep.dp s h2, deep_shaped o1 hd, deep_shaped o2 hd, q _ _ _ (Xt.refl s) (by rw [Deep.eqv]; rfl)⟩
theorem e_neD {r : Rl α} [Mono r] [Deep r] {m n : M α} (hd : Deep.dmax r ≤ 64) (ha : EvC w (ta σ) (fz r) m F H) (hb : EvC w (tb σ) (fz r) n F H) : EvC w (tOp (rNeD K) ta tb σ) (fz rB) (m.bd fun x => n.bd fun y => M.gd (Deep.okd r x = true ∧ Deep.okd r y = true) (.ok (!decide (x = y)))) F H :=
  e_op ha hb (fun _ _ => gd_or) fun hz h1 h2 s Q q => by
    obtain ⟨⟨o1, o2⟩, rfl⟩ := gd_ok hz
    exact ⟨_, _, Deep.dp s h1, Deep.dp s h2, deep_shaped o1 hd, deep_shaped o2 hd, q _ _ _ (Xt.refl s) (by rw [Deep.eqv]; rfl)⟩
theorem e_eqL {r : Rl α} [Mono r] [Deep r] {m n : M (List α)} (hd : Deep.dmax (qL r) ≤ 64) (ha : EvC w (ta σ) (lb r) m F H) (hb : EvC w (tb σ) (lb r) n F H) : EvC w (tOp (rEqD K) ta tb σ) (fz rB) (m.bd fun x => n.bd fun y => M.gd (Deep.okd (qL r) x = true ∧ Deep.okd (qL r) y = true) (.ok (decide (x = y)))) F H :=
  e_op ha hb (fun _ _ => gd_or) fun hz h1 h2 s Q q => by
    obtain ⟨⟨o1, o2⟩, rfl⟩ := gd_ok hz
    exact ⟨_, _, lb_dp s h1, lb_dp s h2, deep_shaped (r := qL r) o1 hd, deep_shaped (r := qL r) o2 hd, q _ _ _ (Xt.refl s) (by rw [Deep.eqv]; rfl)⟩
theorem e_neL {r : Rl α} [Mono r] [Deep r] {m n : M (List α)} (hd : Deep.dmax (qL r) ≤ 64) (ha : EvC w (ta σ) (lb r) m F H) (hb : EvC w (tb σ) (lb r) n F H) : EvC w (tOp (rNeD K) ta tb σ) (fz rB) (m.bd fun x => n.bd fun y => M.gd (Deep.okd (qL r) x = true ∧ Deep.okd (qL r) y = true) (.ok (!decide (x = y)))) F H :=
  e_op ha hb (fun _ _ => gd_or) fun hz h1 h2 s Q q => by
    obtain ⟨⟨o1, o2⟩, rfl⟩ := gd_ok hz
    exact ⟨_, _, lb_dp s h1, lb_dp s h2, deep_shaped (r := qL r) o1 hd, deep_shaped (r := qL r) o2 hd, q _ _ _ (Xt.refl s) (by rw [Deep.eqv]; rfl)⟩
end
theorem e_at {ω α : Type} {w : Xw} {C : Hp → (ω → Hp → Prop) → Prop} {R : Hp → Hp → Hp → ω → α → Prop} {m m' : M α} {F H : Hp} (h : EvC w C R m' F H) (e : m' = m) : EvC w C R m F H := e ▸ h
/-! isinstance of a value whose kind is known -/
class Kd {α : Type} (R : R3 α) (t : outParam String) : Prop where
  kd : ∀ {K : PySem.W.Frag} {H0 F H : Hp} {v : V} {x : α}, Same F H → R H0 F H v x → TyX K H v (.type t)
instance {α : Type} {r : Rl α} : Kd (lb r) "list" := ⟨fun s h => by obtain ⟨a, vs, rfl, h0, _⟩ := h; exact .base (.lst h0)⟩
instance {α : Type} {r : Rl α} : Kd (fz (qL r)) "list" := ⟨fun s h => by obtain ⟨a, vs, rfl, h0, _⟩ := h; exact .base (.lst (s _ _ h0))⟩
instance : Kd (fz rNat) "int" := ⟨fun s h => by rw [show _ = _ from h]; exact .base (.int _)⟩
instance : Kd (fz rI) "int" := ⟨fun s h => by rw [show _ = _ from h]; exact .base (.int _)⟩
instance : Kd (fz rB) "bool" := ⟨fun s h => by rw [show _ = _ from h]; exact .base (.bl _)⟩
instance : Kd (fz rC) "str" := ⟨fun s h => by rw [show _ = _ from h]; exact .base (.str _)⟩
instance : Kd (fz qS) "str" := ⟨fun s h => by rw [h.1]; exact .base (.str _)⟩
instance {α β : Type} {r : Rl α} {s : Rl β} : Kd (fz (rP r s)) "tuple" := ⟨fun s h => by obtain ⟨a, u, w, rfl, h0, _⟩ := h; exact .base (.tup (s _ _ h0))⟩
instance {α β γ : Type} {r : Rl α} {s : Rl β} {t : Rl γ} : Kd (fz (qT3 r s t)) "tuple" := ⟨fun s h => by obtain ⟨a, u, w, z, rfl, h0, _⟩ := h; exact .base (.tup (s _ _ h0))⟩
section
variable {α : Type} {w : Xw} {σ : L2.St} {F H : Hp} {K : PySem.W.Frag} {ta : TE}
theorem e_isi {R : R3 α} [Up R] [Fl R] {t c : String} [Kd R t] {b : Bool} {m : M α} (hk : kitB t c = some b) (ha : EvC w (ta σ) R m F H) : EvC w (tCB (rIsi K) (tCons ta (tCons (tC (.ty c)) tNil)) σ) (fz rB) (m.bd fun _ => .ok b) F H :=
  EvC.last (D := fun (v : V) H (Q : VK) => rIsi K [v, .ty c] H Q) (R' := fz rB) ha (fun _ => .inl ⟨_, rfl⟩) fun x y v F1 H1 F2 H2 hz e1 e2 hr Q q => by
    cases hz
    exact ⟨_, _, _, _, b, rfl, .ty c, Kd.kd e2.fh hr, kit_ty hk, q _ _ _ (Xt.refl e2.fh) rfl⟩
end
end SF
/-! ### {c for a in xs for c in inner(a) if test}, one-letter texts; sorted of it -/
namespace SF
open PySem PySem.Spec PyProof.Rows L2
section
variable {α β : Type}
def M.sc1 (t : β → M Bool) (k : β → M Nat) : List β → List Nat → M (List Nat)
  | [], d => .ok d
  | y :: r, d => (t y).nox.bd fun c => if c = true then (k y).nox.bd fun x => M.gd (d.length + 1 < 64) (M.sc1 t k r (if x ∈ d then d else x :: d)) else M.sc1 t k r d
def M.sc2 (inner : α → M (List β)) (t : α → β → M Bool) (k : α → β → M Nat) : List α → List Nat → M (List Nat)
  | [], d => .ok d
  | x :: r, d => (inner x).nox.bd fun ys => (M.sc1 (t x) (k x) ys d).bd fun d' => M.sc2 inner t k r d'
theorem sc1_or {t : β → M Bool} {k : β → M Nat} : ∀ (ys : List β) (d : List Nat), (∃ z, M.sc1 t k ys d = .ok z) ∨ M.sc1 t k ys d = .bad
  | [], d => .inl ⟨_, rfl⟩
  | y :: r, d => by
    unfold M.sc1
    cases t y with
    | bad => exact .inr rfl
    | exc e => exact .inr rfl
    | ok b =>
      cases b with
      | false => exact sc1_or r d
      | true =>
        cases k y with
        | bad => exact .inr rfl
        | exc e => exact .inr rfl
        | ok x =>
          show (∃ z, M.gd (d.length + 1 < 64) _ = _) ∨ M.gd (d.length + 1 < 64) _ = _
          by_cases h : d.length + 1 < 64
          · rw [M.gd_pos h]; exact sc1_or r _
          · rw [M.gd_neg h]; exact .inr rfl
theorem sc2_or {inner : α → M (List β)} {t : α → β → M Bool} {k : α → β → M Nat} : ∀ (xs : List α) (d : List Nat), (∃ z, M.sc2 inner t k xs d = .ok z) ∨ M.sc2 inner t k xs d = .bad
  | [], d => .inl ⟨_, rfl⟩
  | x :: r, d => by
    unfold M.sc2
    cases inner x with
    | bad => exact .inr rfl
    | exc e => exact .inr rfl
    | ok ys =>
      show (∃ z, (M.sc1 (t x) (k x) ys d).bd _ = _) ∨ (M.sc1 (t x) (k x) ys d).bd _ = _
      rcases sc1_or (t := t x) (k := k x) ys d with ⟨d', h⟩ | h
      · rw [h]; exact sc2_or r d'
      · rw [h]; exact .inr rfl
/-- a new set of one-letter texts -/
def sn (P : Program) (W : World) : R3 (List Nat) := fun H0 F H v xs => ∃ a, v = .ref a ∧ H0 a = none ∧ F a = none ∧ H a = some (TSO P W a (xs.map fun c => S [c])) ∧ xs.Nodup ∧ xs.length < 64
instance {P : Program} {W : World} : Dn (sn P W) := ⟨fun s h => by
  obtain ⟨a, e, h0, h⟩ := h
  exact ⟨a, e, s.free h0, h⟩⟩
instance {P : Program} {W : World} : Up (sn P W) := ⟨fun e h => by
  obtain ⟨a, e1, h0, h1, h2, h3⟩ := h
  exact ⟨a, e1, h0, e.nf a (by rw [h2]; trivial) h1, e.hh _ _ h2, h3⟩⟩
theorem mem_S1 {x : Nat} {d : List Nat} : S [x] ∈ (d.map fun c => S [c]) ↔ x ∈ d := by
  rw [List.mem_map]
  constructor
  · rintro ⟨c, h, e⟩
    have := S_inj.mp e
    simp at this
    exact this ▸ h
  · exact fun h => ⟨x, h, rfl⟩
theorem add_S1 {x : Nat} {d : List Nat} : (if S [x] ∈ (d.map fun c => S [c]) then (d.map fun c => S [c]) else S [x] :: (d.map fun c => S [c])) = ((if x ∈ d then d else x :: d).map fun c => S [c]) := by
  by_cases h : x ∈ d
  · rw [if_pos (mem_S1.mpr h), if_pos h]
  · rw [if_neg (fun q => h (mem_S1.mp q)), if_neg h]; rfl
variable {w w' : Xw} {σ : L2.St} {F H : Hp} {P : Program} {W0 : World}
theorem e_scT2 {wi wi1 : TI} {g g1 : TG} {te : TE} {tt1 : TT} {vs vs1 : List Nat} {r : Rl α} {r1 : Rl β} {m : M (List α)} {inner : α → M (List β)} {t : α → β → M Bool} {k : α → β → M Nat}
    (hi : EvC w (wi σ) (iw r) m F H) (Tg : Hp → α → L2.St → Prop) (hT : ∀ {F F' x σ2}, Same F F' → Tg F x σ2 → Tg F' x σ2)
    (hg : ∀ {x v F4 H4} (Q : L2.St → Hp → Prop), Same F4 H4 → r F4 v x → (∀ σ2, wipe σ2 vs = wipe σ vs → Tg F4 x σ2 → Q σ2 H4) → g v (wipe σ vs) H4 Q)
    (hin : ∀ x σ2 F4 H4, Xt F H F4 H4 → Tg F4 x σ2 → EvC w' (wi1 σ2) (iwF r1) (inner x) F4 H4) (Tg1 : Hp → α → β → L2.St → Prop) (hT1 : ∀ {F F' x y σ3}, Same F F' → Tg1 F x y σ3 → Tg1 F' x y σ3)
    (hg1 : ∀ {x y σ2 v F4 H4} (Q : L2.St → Hp → Prop), Tg F4 x σ2 → Same F4 H4 → r1 F4 v y → (∀ σ3, wipe σ3 vs1 = wipe σ2 vs1 → Tg1 F4 x y σ3 → Q σ3 H4) → g1 v (wipe σ2 vs1) H4 Q)
    (ht : ∀ x y σ3 F4 H4, Xt F H F4 H4 → Tg1 F4 x y σ3 → EvC w' (tt1 σ3) teq (t x y) F4 H4) (hk : ∀ x y σ3 F4 H4, Xt F H F4 H4 → Tg1 F4 x y σ3 → EvC w' (te σ3) (fz rC) (k x y) F4 H4) :
    EvC w (tScT P W0 wi g tYes wi1 g1 tt1 te vs vs1 σ) (sn P W0) (m.bd fun xs => M.sc2 inner t k xs []) F H := by
  refine EvC.bind (D := fun J H1 (Q : VK) => ∀ D, H1 D = none → ∃ W : Nat → Nat → Hp → Prop, (∃ m, W 0 m (upd H1 D (TSO P W0 D []))) ∧ ∀ i m H, W i m H →
    (J.stop i H ∧ Q (.ref D) H) ∨ (J.go i H ∧ ∃ Nx : Hp → Prop, (∀ H', Nx H' → ∃ m', m' < m ∧ W (i + 1) m' H') ∧ ∀ x H', J.yld i H x H' → g x (wipe σ vs) H' fun σ2 H2 => wipe σ2 vs = wipe σ vs ∧ tYes σ2 H2 fun b H3 =>
      if b = true then wi1 σ2 H3 fun J1 H4 => ∃ W1 : Nat → Nat → Hp → Prop, (∃ m, W1 0 m H4) ∧ ∀ j k H, W1 j k H →
        (J1.stop j H ∧ Nx H) ∨ (J1.go j H ∧ ∃ Nx1 : Hp → Prop, (∀ H', Nx1 H' → ∃ k', k' < k ∧ W1 (j + 1) k' H') ∧ ∀ x H', J1.yld j H x H' → g1 x (wipe σ2 vs1) H' fun σ3 H5 => wipe σ3 vs1 = wipe σ2 vs1 ∧ tt1 σ3 H5 fun b H6 =>
          if b = true then te σ3 H6 fun y H7 => ∃ l k, y = V.str k ∧ H7 D = some (TSO P W0 D l) ∧ l.length + 1 < scanBound ∧ Nx1 (upd H7 D (TSO P W0 D (if k ∈ l then l else k :: l))) else Nx1 H6)
      else Nx H3)) (R' := sn P W0) hi fun xs J F1 H1 F2 H2 e1 e2 hw => ?_
  obtain ⟨⟨G, Y, wk, hG, hY⟩, hz⟩ := hw
  have e12 := e1.trans e2
  cases hm : M.sc2 inner t k xs [] with
  | bad => trivial
  | exc e => rcases sc2_or (inner := inner) (t := t) (k := k) xs [] with ⟨z, h⟩ | h <;> rw [h] at hm <;> cases hm
  | ok zs =>
    intro Q q D hD
    refine ⟨fun i n H' => n = xs.length - i ∧ i ≤ xs.length ∧ ∃ F' d, Xt F2 H2 F' H' ∧ F' D = none ∧ H' D = some (TSO P W0 D (d.map fun c => S [c])) ∧ d.Nodup ∧ d.length < 64 ∧ M.sc2 inner t k (xs.drop i) d = .ok zs,
      ⟨xs.length, by simp, Nat.zero_le _, F2, [], (Xt.refl e2.fh).newM hD, e2.fh.free hD, upd_same, List.nodup_nil, by simp, hm⟩, ?_⟩
    rintro i n H4 ⟨rfl, hi, F4, d, e4, f4, hD4, nd4, hd4, hrs⟩
    by_cases hlt : i < xs.length
    · refine .inr ⟨wk.goes i H4 hlt (hG F4 H4 e4), fun H' => ∃ F' d, Xt F2 H2 F' H' ∧ F' D = none ∧ H' D = some (TSO P W0 D (d.map fun c => S [c])) ∧ d.Nodup ∧ d.length < 64 ∧ M.sc2 inner t k (xs.drop (i + 1)) d = .ok zs,
        fun H' h => ⟨xs.length - (i + 1), by omega, rfl, hlt, h⟩, fun u H5 hy => ?_⟩
      obtain ⟨F5, x, hx, e5, hr⟩ := hY i H4 u H5 F4 hlt e4.ff e4.fh (wk.yields i H4 u H5 hlt (hG F4 H4 e4) hy)
      have f5 : F5 D = none := e5.nf D (by rw [hD4]; trivial) f4
      have hD5 := e5.hh _ _ hD4
      have hdrop : xs.drop i = x :: xs.drop (i + 1) := by
        rw [List.drop_eq_getElem_cons hlt]
        congr 1
        rw [List.getElem?_eq_getElem hlt] at hx
        exact Option.some.inj hx
      rw [hdrop] at hrs
      unfold M.sc2 at hrs
      refine hg _ e5.fh hr fun σ2 hw2 ht2 => ⟨hw2, yes_in ?_⟩
      have hin1 := hin x σ2 F5 H5 ((e12.trans e4).trans e5) ht2 F5 H5 (Xt.refl e5.fh)
      cases hix : inner x with
      | bad => rw [hix] at hrs; cases hrs
      | exc e => rw [hix] at hrs; cases hrs
      | ok ys =>
        rw [hix] at hrs hin1
        refine hin1 _ fun J1 F6 H6 e6 hw1 => ?_
        obtain ⟨⟨G1, Y1, wk1, hG1, hY1⟩, hz1⟩ := hw1
        have hrs : ((M.sc1 (t x) (k x) ys d).bd fun d' => M.sc2 inner t k (xs.drop (i + 1)) d') = .ok zs := hrs
        have f6 : F6 D = none := e6.nf D (by rw [hD5]; trivial) f5
        have hD6 := e6.hh _ _ hD5
        have e46 := (e4.trans e5).trans e6
        refine ⟨fun j n H' => n = ys.length - j ∧ j ≤ ys.length ∧ ∃ F' d, Xt F2 H2 F' H' ∧ Same F6 F' ∧ F' D = none ∧ H' D = some (TSO P W0 D (d.map fun c => S [c])) ∧ d.Nodup ∧ d.length < 64 ∧ ((M.sc1 (t x) (k x) (ys.drop j) d).bd fun d' => M.sc2 inner t k (xs.drop (i + 1)) d') = .ok zs,
          ⟨ys.length, by simp, Nat.zero_le _, F6, d, e46, Same.refl _, f6, hD6, nd4, hd4, hrs⟩, ?_⟩
        rintro j n H7 ⟨rfl, hj, F7, d7, e7, s67, f7, hD7, nd7, hd7, hrs7⟩
        by_cases hlt1 : j < ys.length
        · refine .inr ⟨wk1.goes j H7 hlt1 (hG1 F7 H7 s67 e7.fh), fun H' => ∃ F' d, Xt F2 H2 F' H' ∧ Same F6 F' ∧ F' D = none ∧ H' D = some (TSO P W0 D (d.map fun c => S [c])) ∧ d.Nodup ∧ d.length < 64 ∧ ((M.sc1 (t x) (k x) (ys.drop (j + 1)) d).bd fun d' => M.sc2 inner t k (xs.drop (i + 1)) d') = .ok zs,
            fun H' h => ⟨ys.length - (j + 1), by omega, rfl, hlt1, h⟩, fun u8 H8 hy8 => ?_⟩
          obtain ⟨F8, y, hx8, e8, hr8⟩ := hY1 j H7 u8 H8 F7 hlt1 s67 e7.fh (wk1.yields j H7 u8 H8 hlt1 (hG1 F7 H7 s67 e7.fh) hy8)
          have f8 : F8 D = none := e8.nf D (by rw [hD7]; trivial) f7
          have hD8 := e8.hh _ _ hD7
          have hdrop8 : ys.drop j = y :: ys.drop (j + 1) := by
            rw [List.drop_eq_getElem_cons hlt1]
            congr 1
            rw [List.getElem?_eq_getElem hlt1] at hx8
            exact Option.some.inj hx8
          rw [hdrop8] at hrs7
          unfold M.sc1 at hrs7
          have e78 := e7.trans e8
          refine hg1 _ (hT (e6.ff.trans (s67.trans e8.ff)) ht2) e8.fh hr8 fun σ3 hw3 ht3 => ⟨hw3, ?_⟩
          have ht1 := ht x y σ3 F8 H8 (e12.trans e78) ht3 F8 H8 (Xt.refl e8.fh)
          cases htx : t x y with
          | bad => rw [htx] at hrs7; cases hrs7
          | exc e => rw [htx] at hrs7; cases hrs7
          | ok b =>
            rw [htx] at hrs7 ht1
            refine ht1 _ fun b9 F9 H9 e9 hb9 => ?_
            cases (show b9 = b from hb9)
            have f9 : F9 D = none := e9.nf D (by rw [hD8]; trivial) f8
            have hD9 := e9.hh _ _ hD8
            have e89 := e8.trans e9
            cases b with
            | false =>
              show (if false = true then _ else _)
              rw [if_neg Bool.false_ne_true]
              exact ⟨F9, d7, e7.trans e89, s67.trans e89.ff, f9, hD9, nd7, hd7, hrs7⟩
            | true =>
              refine iteT ?_
              have hk1 := hk x y σ3 F9 H9 (e12.trans (e7.trans e89)) (hT1 e9.ff ht3) F9 H9 (Xt.refl e9.fh)
              cases hkx : k x y with
              | bad => rw [hkx] at hrs7; cases hrs7
              | exc e => rw [hkx] at hrs7; cases hrs7
              | ok key =>
                rw [hkx] at hrs7 hk1
                refine hk1 _ fun u10 F10 H10 e10 hu10 => ?_
                have hrs7 : ((M.gd (d7.length + 1 < 64) (M.sc1 (t x) (k x) (ys.drop (j + 1)) (if key ∈ d7 then d7 else key :: d7))).bd fun d' => M.sc2 inner t k (xs.drop (i + 1)) d') = .ok zs := hrs7
                by_cases h64 : d7.length + 1 < 64
                · rw [M.gd_pos h64] at hrs7
                  have e810 := e89.trans e10
                  have f10 : F10 D = none := e10.nf D (by rw [hD9]; trivial) f9
                  have hD10 := e10.hh _ _ hD9
                  refine ⟨_, S [key], hu10, hD10, by rw [List.length_map]; unfold scanBound; omega, F10, if key ∈ d7 then d7 else key :: d7, (e7.trans e810).set hD f10, s67.trans e810.ff, f10, by rw [add_S1]; exact upd_same, ?_, ?_, hrs7⟩
                  · split
                    · exact nd7
                    · rename_i hn; exact List.nodup_cons.mpr ⟨hn, nd7⟩
                  · split
                    · exact hd7
                    · rw [List.length_cons]; omega
                · rw [M.gd_neg h64] at hrs7; cases hrs7
        · have ej : j = ys.length := by omega
          subst ej
          rw [List.drop_length] at hrs7
          exact .inl ⟨wk1.stops H7 (hG1 F7 H7 s67 e7.fh), F7, d7, e7, f7, hD7, nd7, hd7, hrs7⟩
    · have ei : i = xs.length := by omega
      subst ei
      refine .inl ⟨wk.stops H4 (hG F4 H4 e4), ?_⟩
      rw [List.drop_length] at hrs
      injection hrs with hrs
      subst hrs
      exact q _ _ _ e4 ⟨D, rfl, hD, f4, hD4, nd4, hd4⟩
end
/-! sorted -/
def sortN (l : List Nat) : List Nat := l.mergeSort (fun a b => decide (a ≤ b))
theorem sortN_mem {l : List Nat} {c : Nat} : c ∈ sortN l ↔ c ∈ l := by unfold sortN; exact List.mem_mergeSort
theorem sortN_asc {l : List Nat} (h : l.Nodup) : (sortN l).Pairwise (· < ·) := by
  refine le_lt ?_ ((List.mergeSort_perm l _).nodup_iff.mpr h)
  have := List.pairwise_mergeSort (le := fun a b : Nat => decide (a ≤ b)) (fun a b c h1 h2 => by simp at *; omega) (fun a b => by simp; omega) l
  exact this.imp fun h => by simpa using h
theorem sorted_set {ys : List Str} {l : List Nat} (nl : l.Nodup) (nd : ys.Nodup) (hm : ∀ x, x ∈ ys ↔ x ∈ (l.map fun c => S [c])) (hs : sortedS ys = true) : ys = (sortN l).map fun c => S [c] := by
  have key : ∀ (ys : List Str), (∀ x ∈ ys, ∃ c, x = S [c]) → ∃ cs : List Nat, ys = cs.map fun c => S [c] := by
    intro ys
    induction ys with
    | nil => intro _; exact ⟨[], rfl⟩
    | cons y r ih =>
      intro h
      obtain ⟨cs, hcs⟩ := ih fun x hx => h x (List.mem_cons_of_mem _ hx)
      obtain ⟨c, hc⟩ := h y List.mem_cons_self
      exact ⟨c :: cs, by rw [hcs, hc]; rfl⟩
  obtain ⟨cs, rfl⟩ := key ys fun x hx => by
    obtain ⟨c, _, e⟩ := List.mem_map.mp ((hm x).mp hx)
    exact ⟨c, e.symm⟩
  have nd' : cs.Nodup := List.Pairwise.of_map (f := fun c => S [c]) (S := (· ≠ ·)) (R := (· ≠ ·)) (fun a c h e => h (by rw [e])) nd
  rw [asc_eq (le_lt (sorted_le cs hs) nd') (sortN_asc nl) fun c => ?_]
  rw [sortN_mem, ← mem_S1 (d := cs), ← mem_S1 (d := l)]
  exact hm _
section
variable {w : Xw} {σ : L2.St} {F H : Hp} {P : Program} {W0 : World} {ta : TE}
theorem al_qs1 {F : Hp} : ∀ l : List Nat, Al qS F ((l.map fun c => S [c]).map V.str) (l.map fun c => [c])
  | [] => .nil
  | c :: l => .cons ⟨rfl, one_le⟩ (al_qs1 l)
theorem e_sortSet {m : M (List Nat)} (ha : EvC w (ta σ) (sn P W0) m F H) : EvC w (tCB (rSortSet P W0) (tCons ta tNil) σ) (nw qS) (m.bd fun l => .ok ((sortN l).map fun c => [c])) F H :=
  EvC.last (D := fun (v : V) H (Q : VK) => rSortSet P W0 [v] H Q) (R' := nw qS) ha (fun _ => .inl ⟨_, rfl⟩) fun x y v F1 H1 F2 H2 hz e1 e2 hr Q q => by
    cases hz
    obtain ⟨a, rfl, h0, f0, h1, nd, h64⟩ := hr
    refine ⟨a, _, rfl, h1, by rw [List.length_map]; exact h64, fun ys p nd2 hm hs hlen hp => ?_⟩
    have e := sorted_set nd nd2 hm hs
    have hl : (sortN x).length = x.length := List.length_mergeSort x
    obtain ⟨x1, x2⟩ := nw_new (r := qS) (H := H2) (F := F2) (vs := ys.map V.str) (xs := (sortN x).map fun c => [c]) e2.fh hp (by rw [e]; exact al_qs1 _) (by rw [List.length_map, hl, sl64]; omega)
    exact q _ _ _ x1 x2
end
end SF
namespace SF
open PySem PySem.Spec PyProof.Rows L2
def top (i : Nat) : Stmt := PySem.Challenge.pw_surefaults_k09_whole_useful_rules.main.body.getD i (.Pass ⟨0, 0, 0, 0⟩)
abbrev s_is_sign : Stmt := top 14
abbrev n_is_sign : List Str := ["char"]
theorem sc_is_sign : FnScope n_is_sign ["char"] (defScope s_is_sign) := ⟨rfl, rfl, rfl, by decide +kernel, rfl, by decide +kernel, by decide +kernel⟩
abbrev s_is_name : Stmt := top 26
abbrev n_is_name : List Str := ["char"]
theorem sc_is_name : FnScope n_is_name ["char"] (defScope s_is_name) := ⟨rfl, rfl, rfl, by decide +kernel, rfl, by decide +kernel, by decide +kernel⟩
abbrev s_is_body : Stmt := top 27
abbrev n_is_body : List Str := ["body", "char"]
theorem sc_is_body : FnScope n_is_body ["body"] (defScope s_is_body) := ⟨rfl, rfl, rfl, by decide +kernel, rfl, by decide +kernel, by decide +kernel⟩
abbrev s_names_in : Stmt := top 28
abbrev n_names_in : List Str := ["body", "char"]
theorem sc_names_in : FnScope n_names_in ["body"] (defScope s_names_in) := ⟨rfl, rfl, rfl, by decide +kernel, rfl, by decide +kernel, by decide +kernel⟩
abbrev s_least_lengths : Stmt := top 29
abbrev n_least_lengths : List Str := ["rules", "lengths", "changed", "name", "body", "parts", "total", "part"]
theorem sc_least_lengths : FnScope n_least_lengths ["rules"] (defScope s_least_lengths) := ⟨rfl, rfl, rfl, by decide +kernel, rfl, by decide +kernel, by decide +kernel⟩
abbrev s_useful_numbers : Stmt := top 30
abbrev n_useful_numbers : List Str := ["rules", "root", "lengths", "reached", "index", "name", "body", "part", "number"]
theorem sc_useful_numbers : FnScope n_useful_numbers ["rules", "root", "lengths"] (defScope s_useful_numbers) := ⟨rfl, rfl, rfl, by decide +kernel, rfl, by decide +kernel, by decide +kernel⟩
abbrev s_least_derivations : Stmt := top 31
abbrev n_least_derivations : List Str := ["rules", "numbers", "lengths", "best", "changed", "number", "name", "body", "parts", "total", "steps", "word", "part", "char"]
theorem sc_least_derivations : FnScope n_least_derivations ["rules", "numbers", "lengths"] (defScope s_least_derivations) := ⟨rfl, rfl, rfl, by decide +kernel, rfl, by decide +kernel, by decide +kernel⟩
abbrev s_Table___init__ : Stmt := inClass (top 16) 0
abbrev n_Table___init__ : List Str := ["self", "pairs", "numbers", "vanishing", "number", "name"]
theorem sc_Table___init__ : FnScope n_Table___init__ ["self", "pairs", "numbers", "vanishing"] (defScope s_Table___init__) := ⟨rfl, rfl, rfl, by decide +kernel, rfl, by decide +kernel, by decide +kernel⟩
abbrev s_Grammar___init__ : Stmt := inClass (top 33) 1
abbrev n_Grammar___init__ : List Str := ["self", "rules", "root", "number", "name", "body", "lengths", "longest", "most_steps", "pairs", "numbers", "vanishing"]
theorem sc_Grammar___init__ : FnScope n_Grammar___init__ ["self", "rules", "root"] (defScope s_Grammar___init__) := ⟨rfl, rfl, rfl, by decide +kernel, rfl, by decide +kernel, by decide +kernel⟩
abbrev s_Grammar_rules : Stmt := inClass (top 33) 3
abbrev n_Grammar_rules : List Str := ["self"]
theorem sc_Grammar_rules : FnScope n_Grammar_rules ["self"] (defScope s_Grammar_rules) := ⟨rfl, rfl, rfl, by decide +kernel, rfl, by decide +kernel, by decide +kernel⟩
abbrev s_Grammar_useful : Stmt := inClass (top 33) 4
abbrev n_Grammar_useful : List Str := ["self"]
theorem sc_Grammar_useful : FnScope n_Grammar_useful ["self"] (defScope s_Grammar_useful) := ⟨rfl, rfl, rfl, by decide +kernel, rfl, by decide +kernel, by decide +kernel⟩
abbrev s_Grammar_alphabet : Stmt := inClass (top 33) 5
abbrev n_Grammar_alphabet : List Str := ["self", "bodies", "number", "body", "char"]
theorem sc_Grammar_alphabet : FnScope n_Grammar_alphabet ["self"] (defScope s_Grammar_alphabet) := ⟨rfl, rfl, rfl, by decide +kernel, rfl, by decide +kernel, by decide +kernel⟩
abbrev s__law_cell : Stmt := top 35
abbrev n__law_cell : List Str := ["_law_script", "_law_k"]
theorem sc__law_cell : FnScope n__law_cell ["_law_script", "_law_k"] (defScope s__law_cell) := ⟨rfl, rfl, rfl, by decide +kernel, rfl, by decide +kernel, by decide +kernel⟩
abbrev s__law_draws : Stmt := top 37
abbrev n__law_draws : List Str := ["_law_cell_here", "_law_many", "_law_row", "_law_rest", "_law_mixed", "_law_k"]
theorem sc__law_draws : FnScope n__law_draws ["_law_cell_here", "_law_many"] (defScope s__law_draws) := ⟨rfl, rfl, rfl, by decide +kernel, rfl, by decide +kernel, by decide +kernel⟩
abbrev s__law_names : Stmt := top 38
abbrev n__law_names : List Str := ["_law_draws_here", "_law_letters", "_law_k"]
theorem sc__law_names : FnScope n__law_names ["_law_draws_here"] (defScope s__law_names) := ⟨rfl, rfl, rfl, by decide +kernel, rfl, by decide +kernel, by decide +kernel⟩
abbrev s__law_signs : Stmt := top 39
abbrev n__law_signs : List Str := ["_law_draws_here", "_law_every", "_law_k"]
theorem sc__law_signs : FnScope n__law_signs ["_law_draws_here"] (defScope s__law_signs) := ⟨rfl, rfl, rfl, by decide +kernel, rfl, by decide +kernel, by decide +kernel⟩
abbrev s__law_known : Stmt := top 40
abbrev n__law_known : List Str := ["_law_number", "_law_names_here", "_law_signs_here", "_law_s", "_law_a", "_law_b", "_law_x", "_law_y", "_law_z", "_law_menu"]
theorem sc__law_known : FnScope n__law_known ["_law_number", "_law_names_here", "_law_signs_here"] (defScope s__law_known) := ⟨rfl, rfl, rfl, by decide +kernel, rfl, by decide +kernel, by decide +kernel⟩
abbrev s__law_grammar : Stmt := top 41
abbrev n__law_grammar : List Str := ["_law_draws_here", "_law_names_here", "_law_signs_here", "_law_parts", "_law_rules", "_law_k", "_law_at", "_law_body", "_law_j", "_law_one", "_law_ending"]
theorem sc__law_grammar : FnScope n__law_grammar ["_law_draws_here"] (defScope s__law_grammar) := ⟨rfl, rfl, rfl, by decide +kernel, rfl, by decide +kernel, by decide +kernel⟩
abbrev s__law_is_number : Stmt := top 36
abbrev n__law_is_number : List Str := ["_law_x"]
theorem sc__law_is_number : FnScope n__law_is_number ["_law_x"] (defScope s__law_is_number) := ⟨rfl, rfl, rfl, by decide +kernel, rfl, by decide +kernel, by decide +kernel⟩
abbrev s__law_live : Stmt := top 42
abbrev n__law_live : List Str := ["_law_body", "_law_names_here", "_law_part"]
theorem sc__law_live : FnScope n__law_live ["_law_body", "_law_names_here"] (defScope s__law_live) := ⟨rfl, rfl, rfl, by decide +kernel, rfl, by decide +kernel, by decide +kernel⟩
abbrev s__law_useful : Stmt := top 43
abbrev n__law_useful : List Str := ["_law_rules", "_law_base", "_law_live_here", "_law_turn", "_law_name", "_law_body", "_law_good", "_law_part", "_law_k"]
theorem sc__law_useful : FnScope n__law_useful ["_law_rules", "_law_base"] (defScope s__law_useful) := ⟨rfl, rfl, rfl, by decide +kernel, rfl, by decide +kernel, by decide +kernel⟩
abbrev s__law_wider : Stmt := top 44
abbrev n__law_wider : List Str := ["_law_rules", "_law_base", "_law_draws_here", "_law_heads", "_law_free", "_law_never", "_law_apart", "_law_more", "_law_wide", "_law_k", "_law_way", "_law_chain", "_law_body", "_law_name", "_law_letter"]
theorem sc__law_wider : FnScope n__law_wider ["_law_rules", "_law_base", "_law_draws_here"] (defScope s__law_wider) := ⟨rfl, rfl, rfl, by decide +kernel, rfl, by decide +kernel, by decide +kernel⟩
abbrev s_law : Stmt := top 45
abbrev n_law : List Str := ["_law_script", "_law_draws_here", "_law_base", "_law_rules", "_law_every", "_law_at", "_law_grammar_here", "_law_due", "_law_bodies", "_law_signs_here", "_law_told", "_law_alphabet", "_law_k", "_law_sign"]
theorem sc_law : FnScope n_law ["_law_script"] (defScope s_law) := ⟨rfl, rfl, rfl, by decide +kernel, rfl, by decide +kernel, by decide +kernel⟩
structure Ad where
  is_sign : Addr
  d_is_sign : FuncData
  is_name : Addr
  d_is_name : FuncData
  is_body : Addr
  d_is_body : FuncData
  names_in : Addr
  d_names_in : FuncData
  least_lengths : Addr
  d_least_lengths : FuncData
  useful_numbers : Addr
  d_useful_numbers : FuncData
  least_derivations : Addr
  d_least_derivations : FuncData
  Table___init__ : Addr
  d_Table___init__ : FuncData
  Grammar___init__ : Addr
  d_Grammar___init__ : FuncData
  Grammar_rules : Addr
  d_Grammar_rules : FuncData
  Grammar_useful : Addr
  d_Grammar_useful : FuncData
  Grammar_alphabet : Addr
  d_Grammar_alphabet : FuncData
  _law_cell : Addr
  d__law_cell : FuncData
  _law_draws : Addr
  d__law_draws : FuncData
  _law_names : Addr
  d__law_names : FuncData
  _law_signs : Addr
  d__law_signs : FuncData
  _law_known : Addr
  d__law_known : FuncData
  _law_grammar : Addr
  d__law_grammar : FuncData
  _law_is_number : Addr
  d__law_is_number : FuncData
  _law_live : Addr
  d__law_live : FuncData
  _law_useful : Addr
  d__law_useful : FuncData
  _law_wider : Addr
  d__law_wider : FuncData
  law : Addr
  d_law : FuncData
  Table : Addr
  Grammar : Addr
  pr_Grammar_rules : Addr
  pr_Grammar_useful : Addr
  pr_Grammar_alphabet : Addr
structure Txt (K : PySem.W.Frag) (mg : Str → Option Value) (a : Ad) : Prop where
  c_SIGNS : ∃ t, mg "SIGNS" = some (.str "abcdefghijklmnopqrstuvwxyz0123456789()[]{}+-*/,.;:!?" t)
  c_MOST_SIGNS : ∃ t, mg "MOST_SIGNS" = some (.int 40 t)
  c_MOST_PARTS : ∃ t, mg "MOST_PARTS" = some (.int 4 t)
  c_MOST_WORD : ∃ t, mg "MOST_WORD" = some (.int 24 t)
  c_MOST_STEPS : ∃ t, mg "MOST_STEPS" = some (.int 100 t)
  z_len : mg "len" = none
  z_all : mg "all" = none
  z_sum : mg "sum" = none
  z_sorted : mg "sorted" = none
  z_set : mg "set" = none
  z_range : mg "range" = none
  z_enumerate : mg "enumerate" = none
  z_max : mg "max" = none
  z_list : mg "list" = none
  z_int : mg "int" = none
  z_isinstance : mg "isinstance" = none
  z_str : mg "str" = none
  z_any : mg "any" = none
  z_bool : mg "bool" = none
  f_is_sign : Fun K "is_sign" "is_sign" s_is_sign a.is_sign a.d_is_sign
  b_is_sign : Binds K a.d_is_sign ["char"] []
  m_is_sign : mg "is_sign" = some (.ref a.is_sign)
  f_is_name : Fun K "is_name" "is_name" s_is_name a.is_name a.d_is_name
  b_is_name : Binds K a.d_is_name ["char"] []
  m_is_name : mg "is_name" = some (.ref a.is_name)
  f_is_body : Fun K "is_body" "is_body" s_is_body a.is_body a.d_is_body
  b_is_body : Binds K a.d_is_body ["body"] []
  m_is_body : mg "is_body" = some (.ref a.is_body)
  f_names_in : Fun K "names_in" "names_in" s_names_in a.names_in a.d_names_in
  b_names_in : Binds K a.d_names_in ["body"] []
  m_names_in : mg "names_in" = some (.ref a.names_in)
  f_least_lengths : Fun K "least_lengths" "least_lengths" s_least_lengths a.least_lengths a.d_least_lengths
  b_least_lengths : Binds K a.d_least_lengths ["rules"] []
  m_least_lengths : mg "least_lengths" = some (.ref a.least_lengths)
  f_useful_numbers : Fun K "useful_numbers" "useful_numbers" s_useful_numbers a.useful_numbers a.d_useful_numbers
  b_useful_numbers : Binds K a.d_useful_numbers ["rules", "root", "lengths"] []
  m_useful_numbers : mg "useful_numbers" = some (.ref a.useful_numbers)
  f_least_derivations : Fun K "least_derivations" "least_derivations" s_least_derivations a.least_derivations a.d_least_derivations
  b_least_derivations : Binds K a.d_least_derivations ["rules", "numbers", "lengths"] []
  m_least_derivations : mg "least_derivations" = some (.ref a.least_derivations)
  f_Table___init__ : Fun K "__init__" "Table.__init__" s_Table___init__ a.Table___init__ a.d_Table___init__
  b_Table___init__ : Binds K a.d_Table___init__ ["self", "pairs", "numbers", "vanishing"] []
  k_mk_Table : Mk K a.Table a.Table___init__
  f_Grammar___init__ : FunD K "__init__" "Grammar.__init__" (defArgs s_Grammar___init__) (defBody s_Grammar___init__) (defScope s_Grammar___init__) [] [("root", .non)] a.Grammar___init__ a.d_Grammar___init__
  kp_Grammar___init__ : PySem.W.keepIn K (.ref a.Grammar___init__) = true
  k_mk_Grammar : Mk K a.Grammar a.Grammar___init__
  f_Grammar_rules : Fun K "rules" "Grammar.rules" s_Grammar_rules a.Grammar_rules a.d_Grammar_rules
  b_Grammar_rules : Binds K a.d_Grammar_rules ["self"] []
  p_Grammar_rules : PropOf K a.Grammar "rules" a.pr_Grammar_rules a.Grammar_rules
  f_Grammar_useful : Fun K "useful" "Grammar.useful" s_Grammar_useful a.Grammar_useful a.d_Grammar_useful
  b_Grammar_useful : Binds K a.d_Grammar_useful ["self"] []
  p_Grammar_useful : PropOf K a.Grammar "useful" a.pr_Grammar_useful a.Grammar_useful
  f_Grammar_alphabet : Fun K "alphabet" "Grammar.alphabet" s_Grammar_alphabet a.Grammar_alphabet a.d_Grammar_alphabet
  b_Grammar_alphabet : Binds K a.d_Grammar_alphabet ["self"] []
  p_Grammar_alphabet : PropOf K a.Grammar "alphabet" a.pr_Grammar_alphabet a.Grammar_alphabet
  f__law_cell : Fun K "_law_cell" "_law_cell" s__law_cell a._law_cell a.d__law_cell
  b__law_cell : Binds K a.d__law_cell ["_law_script", "_law_k"] []
  m__law_cell : mg "_law_cell" = some (.ref a._law_cell)
  f__law_draws : Fun K "_law_draws" "_law_draws" s__law_draws a._law_draws a.d__law_draws
  b__law_draws : Binds K a.d__law_draws ["_law_cell_here", "_law_many"] []
  m__law_draws : mg "_law_draws" = some (.ref a._law_draws)
  f__law_names : Fun K "_law_names" "_law_names" s__law_names a._law_names a.d__law_names
  b__law_names : Binds K a.d__law_names ["_law_draws_here"] []
  m__law_names : mg "_law_names" = some (.ref a._law_names)
  f__law_signs : Fun K "_law_signs" "_law_signs" s__law_signs a._law_signs a.d__law_signs
  b__law_signs : Binds K a.d__law_signs ["_law_draws_here"] []
  m__law_signs : mg "_law_signs" = some (.ref a._law_signs)
  f__law_known : Fun K "_law_known" "_law_known" s__law_known a._law_known a.d__law_known
  b__law_known : Binds K a.d__law_known ["_law_number", "_law_names_here", "_law_signs_here"] []
  m__law_known : mg "_law_known" = some (.ref a._law_known)
  f__law_grammar : Fun K "_law_grammar" "_law_grammar" s__law_grammar a._law_grammar a.d__law_grammar
  b__law_grammar : Binds K a.d__law_grammar ["_law_draws_here"] []
  m__law_grammar : mg "_law_grammar" = some (.ref a._law_grammar)
  f__law_is_number : Fun K "_law_is_number" "_law_is_number" s__law_is_number a._law_is_number a.d__law_is_number
  b__law_is_number : Binds K a.d__law_is_number ["_law_x"] []
  m__law_is_number : mg "_law_is_number" = some (.ref a._law_is_number)
  f__law_live : Fun K "_law_live" "_law_live" s__law_live a._law_live a.d__law_live
  b__law_live : Binds K a.d__law_live ["_law_body", "_law_names_here"] []
  m__law_live : mg "_law_live" = some (.ref a._law_live)
  f__law_useful : Fun K "_law_useful" "_law_useful" s__law_useful a._law_useful a.d__law_useful
  b__law_useful : Binds K a.d__law_useful ["_law_rules", "_law_base"] []
  m__law_useful : mg "_law_useful" = some (.ref a._law_useful)
  f__law_wider : Fun K "_law_wider" "_law_wider" s__law_wider a._law_wider a.d__law_wider
  b__law_wider : Binds K a.d__law_wider ["_law_rules", "_law_base", "_law_draws_here"] []
  m__law_wider : mg "_law_wider" = some (.ref a._law_wider)
  f_law : Fun K "law" "law" s_law a.law a.d_law
  b_law : Binds K a.d_law ["_law_script"] []
  m_law : mg "law" = some (.ref a.law)
  k_Table : Cls K a.Table
  m_Table : mg "Table" = some (.ref a.Table)
  na_Table_pairs : NoAttr K a.Table "pairs"
  na_Table_numbers : NoAttr K a.Table "numbers"
  na_Table_vanishing : NoAttr K a.Table "vanishing"
  na_Table_by_name : NoAttr K a.Table "by_name"
  k_Grammar : Cls K a.Grammar
  m_Grammar : mg "Grammar" = some (.ref a.Grammar)
  na_Grammar__rules : NoAttr K a.Grammar "_rules"
  na_Grammar_root : NoAttr K a.Grammar "root"
  na_Grammar__useful : NoAttr K a.Grammar "_useful"
  na_Grammar__best : NoAttr K a.Grammar "_best"
  na_Grammar_forward : NoAttr K a.Grammar "forward"
  na_Grammar_backward : NoAttr K a.Grammar "backward"
  con_Grammar_MOST_RULES : ∃ u, Con K a.Grammar "MOST_RULES" (.int 16) u
  cr_Grammar : ClX.CRead K a.Grammar (.type "type")
  cv_Grammar_MOST_RULES : ∃ u, ClX.CVal K a.Grammar (.type "type") "MOST_RULES" (.int 16) u
end SF
namespace SF
open PySem PySem.Spec PyProof.Rows L2
def sp_is_sign : Sp := fun vs H Q _ => ∃ c : List Nat, vs = [.str (S c)] ∧ c.length ≤ sizeLine ∧ Q (.bl (isSign c)) H
def sp_is_name : Sp := fun vs H Q _ => ∃ c : List Nat, vs = [.str (S c)] ∧ c.length ≤ sizeLine ∧ Q (.bl (isName c)) H
section
variable {P : Program} {w : World} {K : PySem.W.Frag} {mg : Str → Option Value} {base : Heap} {a : Ad}
theorem SIGNS_eq : (Str.ofString "abcdefghijklmnopqrstuvwxyz0123456789()[]{}+-*/,.;:!?") = S SIGNSl := by decide +kernel
theorem ok_is_sign (T : Txt K mg a) : FnOk P w K mg base CX0 1 a.is_sign a.d_is_sign ["char"] sp_is_sign := by
  refine T.f_is_sign.ok sc_is_sign (fun vs H Q E h => ?_) (fun cdv A outer s H vs Q E hr h => ?_)
  · obtain ⟨c, rfl, _⟩ := h; rfl
  · obtain ⟨c, rfl, hc, k⟩ := h
    refine ⟨_, (pss_one (ps_ret (pe_and (pe_cmpR op_eq (pe_callB call_len_str (by rfl) T.z_len PySem.boot_len (pa_cons (pv 0) pa_nil)) pe_int (nomark _)) (pe_one (pe_cmpR op_in_sign (pv 0) (pe_globs (by rfl) T.c_SIGNS) (by rfl)))))), ?_⟩
    refine ⟨_, rfl, _, rfl, by rw [S_len]; exact hc, rfl, _, rfl, ?_⟩
    rw [dec_ii, S_len]
    match c, k with
    | [], k => exact iteF k
    | [x], k =>
      refine iteT ⟨_, rfl, x, _, rfl, rfl, ?_⟩
      rw [SIGNS_eq, S_cps]
      exact k
    | x :: y :: r, k =>
      rw [decide_eq_false (by simp only [List.length_cons]; omega)]
      exact iteF k
theorem ok_is_name (T : Txt K mg a) : FnOk P w K mg base CX0 1 a.is_name a.d_is_name ["char"] sp_is_name := by
  refine T.f_is_name.ok sc_is_name (fun vs H Q E h => ?_) (fun cdv A outer s H vs Q E hr h => ?_)
  · obtain ⟨c, rfl, _⟩ := h; rfl
  · obtain ⟨c, rfl, hc, k⟩ := h
    refine ⟨_, (pss_one (ps_ret (pe_and (pe_cmpR op_eq (pe_callB call_len_str (by rfl) T.z_len PySem.boot_len (pa_cons (pv 0) pa_nil)) pe_int (nomark _)) (pe_one (pe_chain op_le_str op_le_str pe_str (pv 0) pe_str))))), ?_⟩
    refine ⟨_, rfl, _, rfl, by rw [S_len]; exact hc, rfl, _, rfl, ?_⟩
    rw [dec_ii, S_len]
    match c, k with
    | [], k => exact iteF k
    | [x], k =>
      refine iteT ?_
      repeat (first | refine ⟨_, rfl, ?_⟩ | refine ⟨_, _, rfl, rfl, ?_⟩ | refine ⟨rfl, ?_⟩)
      have e1 : (Str.ofString "A").cps.toList = [65] := by decide +kernel
      have e2 : (Str.ofString "Z").cps.toList = [90] := by decide +kernel
      rw [e1, S_cps]
      by_cases h1 : x < 65
      · have q1 : (!decide ([x] < [65])) = false := by simp [List.cons_lt_cons_iff]; omega
        have q2 : isName [x] = false := by simp [isName, nam]; omega
        rw [q1]
        rw [q2] at k
        exact iteF k
      · have q1 : (!decide ([x] < [65])) = true := by simp [List.cons_lt_cons_iff]; omega
        rw [q1]
        refine iteT ?_
        repeat (first | refine ⟨_, rfl, ?_⟩ | refine ⟨_, _, rfl, rfl, ?_⟩ | refine ⟨rfl, ?_⟩)
        rw [e2]
        have q2 : (!decide (([90] : List Nat) < (S [x]).cps.toList)) = isName [x] := by
          have h2 : 65 ≤ x := Nat.le_of_not_lt h1
          by_cases h3 : x ≤ 90
          · simp [isName, nam, List.cons_lt_cons_iff, h2, h3]
          · simp [isName, nam, List.cons_lt_cons_iff, h2, h3]; omega
        rw [q2]
        exact k
    | x :: y :: r, k =>
      rw [decide_eq_false (by simp only [List.length_cons]; omega)]
      exact iteF k
def sp_is_body : Sp := fun vs H Q _ => ∃ (F : Hp) (c : List Nat), vs = [.str (S c)] ∧ Same F H ∧ c.length ≤ 1000000 ∧ ∀ F' H', Ext F H F' H' → Q (.bl (isBody c)) H'
theorem ok_is_body (T : Txt K mg a) : FnOk P w K mg base CX0 2 a.is_body a.d_is_body ["body"] sp_is_body := by
  have G_is_sign := ok_is_sign (P := P) (w := w) (base := base) T
  have G_is_name := ok_is_name (P := P) (w := w) (base := base) T
  refine T.f_is_body.ok sc_is_body (fun vs H Q E h => ?_) (fun cdv A outer s H vs Q E hr h => ?_)
  · obtain ⟨F, c, rfl, _⟩ := h; rfl
  · obtain ⟨F, c, rfl, sF, hc, k⟩ := h
    refine ⟨_, (pss_one (ps_ret (pe_and (pe_cmpR op_le (pe_callB call_len_str (by rfl) T.z_len PySem.boot_len (pa_cons (pv 0) pa_nil)) (pe_globi (by rfl) T.c_MOST_PARTS) (nomark _)) (pe_one (pe_callB (cr_allK (K := K) (by rfl)) (by rfl) T.z_all (by decide +kernel) (pa_cons (pe_lc (own := [("char", 1)]) (g := gName 1) (tt := tYes) (by rfl) sc_is_body.nd (pi_str (pv 0)) (blkOk_by (own := [("char", 1)]) (N := n_is_body) (sc := (defScope s_is_body)) (by decide +kernel)) (fun _ _ _ _ _ => (pg_name (i := 1) sc_is_body.nd rfl (Or.inl rfl))) (fun _ _ _ _ _ => pts_nil) (fun _ _ _ _ _ => (pe_or (pe_call G_is_sign (hr.mono (by decide)) (by rfl) T.m_is_sign T.f_is_sign.kp T.b_is_sign .nil pass0 (pa_cons (pv 1) pa_nil)) (pe_one (pe_call G_is_name (hr.mono (by decide)) (by rfl) T.m_is_name T.f_is_name.kp T.b_is_name .nil pass0 (pa_cons (pv 1) pa_nil)))))) pa_nil)))))), ?_⟩
    have hc' : (S c).length ≤ sizeLine := by rw [S_len, sl64]; omega
    refine ⟨_, rfl, _, rfl, hc', _, _, rfl, rfl, _, rfl, ?_⟩
    by_cases h4 : c.length ≤ 4
    · have q1 : decide (((S c).length : Int) ≤ 4) = true := by rw [S_len]; exact decide_eq_true (by omega)
      rw [q1]
      refine iteT ?_
      refine ⟨_, rfl, _, rfl, fun D hD => ?_⟩
      refine lc_it walk_str (LcI rB F H D fun i => (c.take i).map fun x => sgn x || nam x) (LcI.start sF hD rfl) (fun _ _ _ _ => trivial) ?_ ?_
      · rintro i x H1 H2 hi ⟨F', ws, e, fD, hD', al⟩ ⟨rfl, ch, hch, rfl⟩
        have hch := S_get hch
        have hl1 : ([ch] : List Nat).length ≤ sizeLine := by rw [sl64]; simp
        have fin : ∀ b : Bool, b = (sgn ch || nam ch) → ∃ acc, H2 D = some (.lst acc) ∧ acc.length < sizeLine ∧ LcI rB F H D (fun i => (c.take i).map fun x => sgn x || nam x) (i + 1) (upd H2 D (.lst (acc ++ [.bl b]))) := fun b hb => by
          subst hb
          refine LcI.yes (sgn ch || nam ch) hD e fD hD' al (Ext.refl e.fh) rfl (map_more hch) ?_
          rw [List.length_map, List.length_take, sl64]; omega
        refine ⟨rfl, _, rfl, [ch], rfl, hl1, isSign [ch], rfl, ?_⟩
        cases hs : isSign [ch] with
        | true => exact iteT (fin true (by simp [isSign] at hs; simp [hs]))
        | false =>
          refine iteF ⟨_, rfl, [ch], rfl, hl1, fin _ ?_⟩
          have hs' : sgn ch = false := hs
          rw [hs']
          rfl
      · intro H' h'
        obtain ⟨F', vs, e, fD, al⟩ := h'.frz hD
        refine ⟨D, _, rfl, SqL.of (by rw [e.fh _ _ fD, al.bls]), ?_⟩
        have q2 : ((c.take (S c).cps.size).map fun x => sgn x || nam x).all id = isBody c := by
          rw [S_size, List.take_length, List.all_map]
          unfold isBody
          rw [decide_eq_true h4]
          rfl
        rw [q2]
        exact k F' H' e
    · have q1 : decide (((S c).length : Int) ≤ 4) = false := by rw [S_len]; exact decide_eq_false (by omega)
      rw [q1]
      refine iteF ?_
      have q2 : isBody c = false := by unfold isBody; rw [decide_eq_false h4]; rfl
      rw [q2] at k
      exact k F H (Ext.refl sF)
def sp_names_in : Sp := Pu1 rS (fun l => l.length ≤ 1000000) (rL rS) (fun l => ch1 (namesIn l))
theorem ok_names_in (T : Txt K mg a) : FnOk P w K mg base CX0 2 a.names_in a.d_names_in ["body"] sp_names_in := by
  have G_is_name := ok_is_name (P := P) (w := w) (base := base) T
  refine T.f_names_in.ok sc_names_in (fun vs H Q E h => ?_) (fun cdv A outer s H vs Q E hr h => ?_)
  · obtain ⟨F, v0, c, rfl, _⟩ := h; rfl
  · obtain ⟨F, _, c, rfl, sF, rfl, hc, k⟩ := h
    refine ⟨_, (pss_one (ps_ret (pe_lc (own := [("char", 1)]) (g := gName 1) (by rfl) sc_names_in.nd (pi_str (pv 0)) (blkOk_by (own := [("char", 1)]) (N := n_names_in) (sc := (defScope s_names_in)) (by decide +kernel)) (fun _ _ _ _ _ => (pg_name (i := 1) sc_names_in.nd rfl (Or.inl rfl))) (fun _ _ _ _ _ => (pts_one (pt_val (pe_call G_is_name (hr.mono (by decide)) (by rfl) T.m_is_name T.f_is_name.kp T.b_is_name .nil pass0 (pa_cons (pv 1) pa_nil))))) (fun _ _ _ _ _ => (pv 1))))), ?_⟩
    refine ⟨_, rfl, _, rfl, fun D hD => ?_⟩
    refine lc_it walk_str (LcI rS F H D fun i => ch1 ((c.take i).filter nam)) (LcI.start sF hD rfl) (fun _ _ _ _ => trivial) ?_ ?_
    · rintro i x H1 H2 hi ⟨F', ws, e, fD, hD', al⟩ ⟨rfl, ch, hch, rfl⟩
      have hch := S_get hch
      have hl1 : ([ch] : List Nat).length ≤ sizeLine := by rw [sl64]; simp
      refine ⟨rfl, _, rfl, [ch], rfl, hl1, _, rfl, ?_⟩
      cases hn : isName [ch] with
      | true =>
        refine iteT ⟨_, rfl, ?_⟩
        have hn' : nam ch = true := hn
        refine LcI.yes [ch] hD e fD hD' al (Ext.refl e.fh) rfl ?_ ?_
        · show ch1 _ = ch1 _ ++ _
          rw [filter_yes hch hn']; simp [ch1]
        · have := List.length_filter_le nam (c.take i)
          rw [List.length_map, sl64]; rw [List.length_take] at this; omega
      | false =>
        have hn' : nam ch = false := hn
        refine iteF (LcI.no e fD hD' al (Ext.refl e.fh) ?_)
        show ch1 _ = ch1 _
        rw [filter_no hch hn']
    · intro H' h'
      obtain ⟨F', vs, e, fD, al⟩ := h'.frz hD
      refine k _ F' H' e ⟨D, vs, rfl, fD, ?_⟩
      rw [S_size, List.take_length] at al
      exact al
end
end SF
namespace SF
open PySem PySem.Spec PyProof.Rows L2
def sp_least_lengths : Sp := Pu1 (rL rRule) RulesOk (rD encN rNat) leastLengths
section
variable {P : Program} {w : World} {K : PySem.W.Frag} {mg : Str → Option Value} {base : Heap} {a : Ad}
/-- the lengths at d within a body -/
def LLd (F H : Hp) (d : Addr) (m : List (Nat × Nat)) (H' : Hp) : Prop := ∃ F' kvs, Ext F H F' H' ∧ F' d = none ∧ H' d = some (.dK kvs) ∧ AD encN rNat F' kvs m
theorem ok_least_lengths (T : Txt K mg a) : FnOk P w K mg base CX0 3 a.least_lengths a.d_least_lengths ["rules"] sp_least_lengths := by
  have G_names_in := ok_names_in (P := P) (w := w) (base := base) T
  refine T.f_least_lengths.ok sc_least_lengths (fun vs H Q E h => ?_) (fun cdv A outer s H vs Q E hr h => ?_)
  · obtain ⟨F, v0, c, rfl, _⟩ := h; rfl
  · obtain ⟨F, _, rules, rfl, sF, ⟨ra, rvs, rfl, hra, hal⟩, hok, k⟩ := h
    refine ⟨_, (pss_cons (ps_set (i := 1) sc_least_lengths.nd rfl (Or.inr rfl) pe_dnewK)
  (pss_cons (ps_set (i := 2) sc_least_lengths.nd rfl (Or.inl rfl) pe_bl)
  (pss_cons (ps_while PassesOwn.never (pt_val (pv 2))
    (pss_cons (ps_set (i := 2) sc_least_lengths.nd rfl (Or.inl rfl) pe_bl)
  (pss_one (ps_for PassesOwn.never rfl (pi_listK (K := K) (pv 0)) (pg_tupK (K := K) (n := 2) (by rfl) (pgs_cons (pg_name (i := 3) sc_least_lengths.nd rfl (Or.inl rfl)) (pgs_cons (pg_name (i := 4) sc_least_lengths.nd rfl (Or.inl rfl)) pgs_nil)))
    (pss_cons (ps_setLc (i := 5) (own := [("part", 7)]) (g := gName 7) (tt := tYes) (by rfl) sc_least_lengths.nd rfl rfl (sw_true rfl rfl rfl (by decide +kernel)) (pi_listK (K := K) (pe_call G_names_in (hr.mono (by decide)) (by rfl) T.m_names_in T.f_names_in.kp T.b_names_in .nil pass0 (pa_cons (pv 4) pa_nil))) (blkOk_by (own := [("part", 7)]) (N := n_least_lengths) (sc := (defScope s_least_lengths)) (by decide +kernel)) (fun _ _ _ _ _ => (pg_name (i := 7) sc_least_lengths.nd rfl (Or.inl rfl))) (fun _ _ _ _ _ => pts_nil) (fun _ _ _ _ _ => (pe_dget1 (hu_of hr) (pv 1) (pv 7) ⟨by rfl, by rfl, by rfl, by rfl⟩)))
  (pss_cons (ps_if (pt_cmpR (op_inK (K := K)) pe_non (pv 5) (by rfl))
    (pss_one ps_continue)
    pss_nil)
  (pss_cons (ps_set (i := 6) sc_least_lengths.nd rfl (Or.inl rfl) (pe_op op_add (pe_op op_sub (pe_callB call_len_str (by rfl) T.z_len PySem.boot_len (pa_cons (pv 4) pa_nil)) (pe_callB (call_lenK (K := K)) (by rfl) T.z_len PySem.boot_len (pa_cons (pv 5) pa_nil))) (pe_callB (cr_sumK (K := K) (by rfl)) (by rfl) T.z_sum (by decide +kernel) (pa_cons (pv 5) pa_nil))))
  (pss_one (ps_if (PW.pt (pw_or (pt_cmp (pc_dnotin (hu_of hr) (pv 3) (pv 1)) (by rfl)) (pw_or1 (pt_cmpR op_lt (pv 6) (pe_dget (hu_of hr) (pv 1) (pv 3) (fun _ _ => rfl)) (nomark _)))))
    (pss_cons (ps_dput (hu_of hr) (pv 1) (pv 3) (pv 6) rfl)
  (pss_one (ps_set (i := 2) sc_least_lengths.nd rfl (Or.inl rfl) pe_bl)))
    pss_nil)))))))))
  (pss_one (ps_ret (pv 1)))))), ?_⟩
    intro d hd
    refine ⟨fun n σ H' => ∃ (b : Bool) (m : List (Nat × Nat)) (x3 x4 x5 x6 : Option V), σ = [some (.ref ra), some (.ref d), some (.bl b), x3, x4, x5, x6, none] ∧ LLd F H d m H' ∧ LLok m ∧
      ((b = true ∧ mu m < n ∧ rounds (llRound rules) n m = leastLengths rules) ∨ (b = false ∧ m = leastLengths rules)), ⟨llFuel, true, [], none, none, none, none, rfl, ⟨F, [], (Ext.refl sF).newM hd, sF.free hd, upd_same, .nil⟩, LLok.nil, .inl ⟨rfl, Nat.lt_succ_self _, rfl⟩⟩, ?_⟩
    rintro n σ H1 ⟨b, m, x3, x4, x5, x6, rfl, hD, hm, hb⟩
    refine ⟨_, rfl, b, rfl, ?_⟩
    rcases hb with ⟨rfl, hmu, hres⟩ | ⟨rfl, hres⟩
    · refine iteT ⟨fun σ' H' => ∃ n', n' < n ∧ ∃ (b : Bool) (m : List (Nat × Nat)) (x3 x4 x5 x6 : Option V), σ' = [some (.ref ra), some (.ref d), some (.bl b), x3, x4, x5, x6, none] ∧ LLd F H d m H' ∧ LLok m ∧
        ((b = true ∧ mu m < n' ∧ rounds (llRound rules) n' m = leastLengths rules) ∨ (b = false ∧ m = leastLengths rules)), fun _ _ h => h, ?_⟩
      -- changed = False; for name, body in rules
      obtain ⟨F1, kvs1, e1, fd1, hd1, ad1⟩ := hD
      refine ⟨_, rfl, ra, rfl, ⟨_, SqL.of (e1.sm _ _ hra)⟩, for_list (K := K) (a := ra) (xs := rvs) (fun i σ H' => ∃ (x3 x4 x5 x6 : Option V),
        σ = [some (.ref ra), some (.ref d), some (.bl ((rules.take i).foldl llStep (m, false)).2), x3, x4, x5, x6, none] ∧ LLd F H d ((rules.take i).foldl llStep (m, false)).1 H')
        ⟨x3, x4, x5, x6, rfl, F1, kvs1, e1, fd1, hd1, ad1⟩ (fun i σ H' _ h => ?_) ?_ ?_⟩
      · obtain ⟨_, _, _, _, _, F', _, e, _⟩ := h
        exact SqL.of (e.sm _ _ hra)
      · rintro i y σ H2 hy ⟨x3, x4, x5, x6, rfl, F2, kvs, e2, fd2, hd2, ad2⟩
        obtain ⟨r, t, hr', rfl, ht⟩ := rule_at hal hy
        have hrok := hok r (List.mem_of_getElem? hr')
        have lok : LLok ((rules.take i).foldl llStep (m, false)).1 := (llFold (m, false) (fun x hx => ⟨(hok x (List.mem_of_mem_take hx)).1, (hok x (List.mem_of_mem_take hx)).2.1⟩) hm).1
        have hst := foldl_more (f := llStep) (b := (m, false)) hr'
        generalize (rules.take i).foldl llStep (m, false) = st at hst ad2 lok ⊢
        obtain ⟨m2, b2⟩ := st
        -- name, body = the rule
        refine ⟨t, _, rfl, SqT.of (e2.sm _ _ ht), rfl, _, _, rfl, _, _, rfl, rfl, ?_⟩
        -- parts = [lengths.get(part) for part in names_in(body)]
        refine ⟨_, rfl, F2, _, r.2, rfl, e2.fh, rfl, by have := hrok.2.1; omega, fun v F3 H3 e3 hv => ?_⟩
        obtain ⟨la, lvs, rfl, hla, hlal⟩ := hv
        have hlv : lvs = (namesIn r.2).map fun c => V.str (S [c]) := by rw [hlal.strs]; show List.map _ (ch1 _) = _; rw [List.map_map]; rfl
        have hnl : (namesIn r.2).length ≤ 4 := Nat.le_trans (namesIn_le _) hrok.2.1
        refine ⟨la, rfl, ⟨_, SqL.of (e3.fh _ _ hla)⟩, fun D hD => ?_⟩
        refine lc_list (K := K) (a := la) (xs := lvs) (LcI (rO rNat) F3 H3 D fun j => ((namesIn r.2).take j).map fun c => aGet m2 c) (LcI.start e3.fh hD rfl) (fun j H' _ h => ?_) ?_ ?_
        · obtain ⟨F', ws, e, _⟩ := h
          exact SqL.of (e.sm _ _ hla)
        · rintro j z H4 hj ⟨F4, ws, e4, f4, hD4, al4⟩
          obtain ⟨c, hc, rfl⟩ : ∃ c, (namesIn r.2)[j]? = some c ∧ z = V.str (S [c]) := by
            rw [hlv, List.getElem?_map] at hj
            cases q : (namesIn r.2)[j]? with
            | none => rw [q] at hj; cases hj
            | some c => rw [q] at hj; exact ⟨c, rfl, (Option.some.inj hj).symm⟩
          have hjl : j < (namesIn r.2).length := (List.getElem?_eq_some_iff.mp hc).1
          have hd4 : H4 d = some (.dK kvs) := e4.hh _ _ (e3.hh _ _ hd2)
          refine ⟨rfl, _, rfl, d, rfl, Or.inl ⟨kvs, Rd.of hd4⟩, _, rfl, _, DGet.k (k := encN c) hd4, ?_⟩
          have hz : (((namesIn r.2).take j).map fun c => aGet m2 c).length < sizeLine := by rw [List.length_map, List.length_take, sl64]; omega
          rcases AD.get encN_inj c ad2 with ⟨h1, h2⟩ | ⟨x, v, h1, h2, h3⟩
          · rw [h2]
            exact LcI.yes none hD e4 f4 hD4 al4 (Ext.refl e4.fh) rfl (by rw [map_more hc, h1]) hz
          · rw [h2]
            exact LcI.yes (some x) hD e4 f4 hD4 al4 (Ext.refl e4.fh) (Mono.mono (r := rNat) (e3.ff.trans e4.ff) h3) (by rw [map_more hc, h1]) hz
        · intro H5 h5
          obtain ⟨F5, vs5, e5, fD5, al5⟩ := h5.frz hD
          rw [show lvs.length = (namesIn r.2).length by rw [hlv, List.length_map], List.take_length] at al5
          obtain ⟨o1, o2, o3⟩ := al5.opts
          have hos : (((namesIn r.2).map fun c => aGet m2 c).all fun o => o.isSome) = allIn m2 r.2 := by rw [List.all_map]; rfl
          rw [hos] at o2 o3
          have e25 : Ext F2 H2 F5 H5 := e3.trans e5
          have hd5 : H5 d = some (.dK kvs) := e25.hh _ _ hd2
          have fd5 : F5 d = none := e25.nf d (by rw [hd2]; simp) fd2
          -- if None in parts: continue
          refine ⟨_, rfl, D, vs5, rfl, .inl (SqL.of (e5.fh _ _ fD5)), rfl, o1, _, rfl, ?_⟩
          rw [if_neg Bool.false_ne_true, o2]
          cases hal2 : allIn m2 r.2 with
          | false =>
            refine iteT ⟨some (.str (S [r.1])), some (.str (S r.2)), some (.ref D), x6, ?_, F5, kvs, e2.trans e25, fd5, hd5, ?_⟩
            · rw [hst]; unfold llStep; rw [hal2]; rfl
            · rw [hst]; unfold llStep; rw [hal2]; exact ad2.mono e25.ff
          | true =>
            refine iteF ?_
            have hvs5 := o3 hal2
            have hlen5 : vs5.length = (namesIn r.2).length := by rw [hvs5, List.length_map, List.length_map, List.length_map]
            have etot : (((S r.2).length : Nat) : Int) - ((vs5.length : Nat) : Int) + ((((namesIn r.2).map fun c => aGet m2 c).map fun o => ((o.getD 0 : Nat) : Int)).sum) = ((total m2 r.2 : Nat) : Int) := by
              have q := sum_ints ((namesIn r.2).map fun c => (aGet m2 c).getD 0)
              rw [List.map_map] at q ⊢
              have q2 : ((namesIn r.2).map ((fun o => ((o.getD 0 : Nat) : Int)) ∘ fun c => aGet m2 c)).sum = ((((namesIn r.2).map fun c => (aGet m2 c).getD 0).sum : Nat) : Int) := q
              rw [q2, hlen5, S_len]
              unfold total
              have := namesIn_le r.2
              omega
            -- total = ..
            refine ⟨_, rfl, _, rfl, by rw [S_len, sl64]; have := hrok.2.1; omega, _, rfl, D, vs5, rfl, .inl (SqL.of (e5.fh _ _ fD5)), _, _, rfl, rfl, _, rfl, D, ((namesIn r.2).map fun c => aGet m2 c).map fun o => ((o.getD 0 : Nat) : Int), rfl, SqL.of (by rw [← hvs5]; exact e5.fh _ _ fD5), _, _, rfl, rfl, ?_⟩
            dsimp only
            rw [etot]
            -- if name not in lengths or total < lengths[name]
            refine ⟨_, rfl, _, rfl, d, _, rfl, DGet.k (k := encN r.1) hd5, _, rfl, ?_⟩
            have fin1 : better m2 r = true → ∃ (x3 x4 x5 x6 : Option V), [some (V.ref ra), some (.ref d), some (.bl true), some (.str (S [r.1])), some (.str (S r.2)), some (.ref D), some (.int ((total m2 r.2 : Nat) : Int)), none] = [some (V.ref ra), some (.ref d), some (.bl ((rules.take (i + 1)).foldl llStep (m, false)).2), x3, x4, x5, x6, none] ∧
                LLd F H d ((rules.take (i + 1)).foldl llStep (m, false)).1 (upd H5 d (.dK (putK kvs (encN r.1) (.int ((total m2 r.2 : Nat) : Int))))) := fun hb => by
              rw [hst]
              unfold llStep
              rw [hal2, if_pos rfl, hb, if_pos rfl]
              exact ⟨_, _, _, _, rfl, F5, _, (e2.trans e25).set hd fd5, fd5, upd_same, (ad2.mono e25.ff).put encN_inj (r := rNat) rfl⟩
            have fin2 : better m2 r = false → ∃ (x3 x4 x5 x6 : Option V), [some (V.ref ra), some (.ref d), some (.bl b2), some (.str (S [r.1])), some (.str (S r.2)), some (.ref D), some (.int ((total m2 r.2 : Nat) : Int)), none] = [some (V.ref ra), some (.ref d), some (.bl ((rules.take (i + 1)).foldl llStep (m, false)).2), x3, x4, x5, x6, none] ∧
                LLd F H d ((rules.take (i + 1)).foldl llStep (m, false)).1 H5 := fun hb => by
              rw [hst]
              unfold llStep
              rw [hal2, if_pos rfl, hb, if_neg Bool.false_ne_true]
              exact ⟨_, _, _, _, rfl, F5, kvs, e2.trans e25, fd5, hd5, ad2.mono e25.ff⟩
            have hkz : kvs.length < sizeLine := by
              have := lok.few
              have := ad2.len
              rw [sl64]
              omega
            rcases AD.get encN_inj r.1 ad2 with ⟨h1, h2⟩ | ⟨x, v, h1, h2, h3⟩
            · rw [h2]
              refine iteT (iteT ?_)
              refine ⟨_, rfl, _, rfl, _, rfl, d, _, rfl, DPut.k (k := encN r.1) hd5 hkz, ?_⟩
              exact fin1 (by unfold better; rw [show aGet m2 r.1 = none from h1])
            · rw [h2]
              refine iteF ?_
              refine ⟨_, rfl, _, rfl, _, rfl, d, v, rfl, ?_, ?_⟩
              · rw [← h2]; exact DGet.k (k := encN r.1) hd5
              · have hv : v = .int (x : Int) := h3
                subst hv
                refine ⟨_, _, rfl, rfl, _, rfl, ?_⟩
                have hbt : better m2 r = decide (total m2 r.2 < x) := by unfold better; rw [show aGet m2 r.1 = some x from h1]
                by_cases hlt : total m2 r.2 < x
                · rw [decide_eq_true (show ((total m2 r.2 : Nat) : Int) < (x : Int) by omega)]
                  refine iteT ⟨_, rfl, _, rfl, _, rfl, d, _, rfl, DPut.k (k := encN r.1) hd5 hkz, ?_⟩
                  exact fin1 (by rw [hbt, decide_eq_true hlt])
                · rw [decide_eq_false (show ¬ ((total m2 r.2 : Nat) : Int) < (x : Int) by omega)]
                  refine iteF ?_
                  exact fin2 (by rw [hbt, decide_eq_false hlt])
      · rintro σ H6 ⟨x3, x4, x5, x6, rfl, F6, kvs6, e6, fd6, hd6, ad6⟩
        rw [hal.len, List.take_length] at ad6
        rw [show rvs.length = rules.length from hal.len, List.take_length]
        obtain ⟨l1, l2, l3, l4⟩ := llFold (rules := rules) (m, false) (fun x hx => ⟨(hok x hx).1, (hok x hx).2.1⟩) hm
        obtain ⟨n, rfl⟩ : ∃ n', n = n' + 1 := ⟨n - 1, by omega⟩
        have hround : llRound rules m = rules.foldl llStep (m, false) := rfl
        refine ⟨n, Nat.lt_succ_self _, _, _, _, _, _, _, rfl, ⟨F6, kvs6, e6, fd6, hd6, ad6⟩, l1, ?_⟩
        unfold rounds at hres
        rw [hround] at hres
        cases hb : (rules.foldl llStep (m, false)).2 with
        | true =>
          rw [hb, if_pos rfl] at hres
          have := l3 rfl hb
          have e0 : mu (m, false).1 = mu m := rfl
          rw [e0] at this
          exact .inl ⟨rfl, by omega, hres⟩
        | false =>
          rw [hb, if_neg Bool.false_ne_true] at hres
          exact .inr ⟨rfl, hres⟩
    · refine iteF ⟨_, rfl, ?_⟩
      obtain ⟨F1, kvs1, e1, fd1, hd1, ad1⟩ := hD
      rw [← hres] at k
      exact k _ _ H1 (e1.frz hd hd1 fd1) ⟨d, kvs1, rfl, upd_same, ad1.mono (fun b u q => by rw [upd_ne (ne_of_none q fd1)]; exact q)⟩
end
end SF
namespace SF
open PySem PySem.Spec PyProof.Rows L2
section
variable {K : PySem.W.Frag}
/-- [part in d for part in names_in(body)] -/
theorem all_in_lc {α : Type} {r : Rl α} [Mono r] {σ : L2.St} {i j dS : Nat} {F H : Hp} {d : Addr} {kvs : List (Key × V)} {m : List (Nat × α)} {b : List Nat} {Q : VK}
    (hi : σ[i]? = some (some (V.str (S b)))) (hd : ∀ v, ((wipe σ [j]).set j (some v))[dS]? = some (some (V.ref d))) (hj : ∀ v : V, ((wipe σ [j]).set j (some v))[j]? = some (some v))
    (hw : ∀ v, wipe ((wipe σ [j]).set j (some v)) [j] = wipe σ [j]) (sF : Same F H) (hH : Rd H d (.dK kvs)) (hfr : ∀ H', Same H H' → Rd H' d (.dK kvs)) (ad : AD encN r F kvs m) (hb : b.length ≤ 1000000)
    (k : ∀ D F' H', Ext F H F' H' → F' D = some (.lst (((namesIn b).map fun c => (aGet m c).isSome).map V.bl)) → Q (.ref D) H') :
    tLc (iList K (tCall sp_names_in [] E0 (tCons (tVar i) tNil))) (gName j) tYes (tDIn (tVar j) (tVar dS)) [j] σ H Q := by
  refine ⟨_, hi, F, _, b, rfl, sF, rfl, hb, fun v F3 H3 e3 hv => ?_⟩
  obtain ⟨la, lvs, rfl, hla, hlal⟩ := hv
  have hlv : lvs = (namesIn b).map fun c => V.str (S [c]) := by rw [hlal.strs]; show List.map _ (ch1 _) = _; rw [List.map_map]; rfl
  refine ⟨la, rfl, ⟨_, SqL.of (e3.fh _ _ hla)⟩, fun D hD => ?_⟩
  refine lc_list (K := K) (a := la) (xs := lvs) (LcI rB F3 H3 D fun n => ((namesIn b).take n).map fun c => (aGet m c).isSome) (LcI.start e3.fh hD rfl) (fun n H' _ h => ?_) ?_ ?_
  · obtain ⟨F', ws, e, _⟩ := h
    exact SqL.of (e.sm _ _ hla)
  · rintro n z H4 hz ⟨F4, ws, e4, f4, hD4, al4⟩
    obtain ⟨c, hc, rfl⟩ : ∃ c, (namesIn b)[n]? = some c ∧ z = V.str (S [c]) := by
      rw [hlv, List.getElem?_map] at hz
      cases q : (namesIn b)[n]? with
      | none => rw [q] at hz; cases hz
      | some c => rw [q] at hz; exact ⟨c, rfl, (Option.some.inj hz).symm⟩
    have hnl : n < (namesIn b).length := (List.getElem?_eq_some_iff.mp hc).1
    have hnb := namesIn_le b
    have hd4 : Rd H4 d (.dK kvs) := hfr H4 (e3.hh.trans e4.hh)
    refine ⟨hw _, _, hj _, _, hd _, d, _, rfl, .inl ⟨kvs, encN c, hd4, rfl, rfl⟩, ?_⟩
    have hzz : (((namesIn b).take n).map fun c => (aGet m c).isSome).length < sizeLine := by rw [List.length_map, List.length_take, sl64]; omega
    have e1 : (valV kvs (encN c)).isSome = (aGet m c).isSome := by
      rcases AD.get encN_inj c ad with ⟨h1, h2⟩ | ⟨x, v, h1, h2, h3⟩
      · rw [h1, h2]; rfl
      · rw [h1, h2]; rfl
    rw [e1]
    exact LcI.yes _ hD e4 f4 hD4 al4 (Ext.refl e4.fh) rfl (map_more hc) hzz
  · intro H5 h5
    obtain ⟨F5, vs5, e5, fD5, al5⟩ := h5.frz hD
    rw [show lvs.length = (namesIn b).length by rw [hlv, List.length_map], List.take_length] at al5
    exact k D F5 H5 (e3.trans e5) (by rw [fD5, al5.bls])
end
def sp_useful_numbers : Sp := Pu3 (rL rRule) rC (rD encN rNat) (fun rules root _ => RulesOk rules ∧ nam root = true ∧ rules.length ≤ 16) (rL rNat) usefulNumbers
section
variable {P : Program} {w : World} {K : PySem.W.Frag} {mg : Str → Option Value} {base : Heap} {a : Ad}
theorem ok_useful_numbers (T : Txt K mg a) : FnOk P w K mg base CX0 3 a.useful_numbers a.d_useful_numbers ["rules", "root", "lengths"] sp_useful_numbers := by
  have G_names_in := ok_names_in (P := P) (w := w) (base := base) T
  refine T.f_useful_numbers.ok sc_useful_numbers (fun vs H Q E h => ?_) (fun cdv A outer s H vs Q E hr h => ?_)
  · obtain ⟨F, v0, v1, v2, x, y, z, rfl, _⟩ := h; rfl
  · obtain ⟨F, _, _, _, rules, root, lens, rfl, sF, ⟨ra, rvs, rfl, hra, hal⟩, rfl, ⟨d, kvs, rfl, hd, ad⟩, ⟨hok, hroot, h16⟩, k⟩ := h
    refine ⟨_, (pss_cons (ps_set (i := 3) sc_useful_numbers.nd rfl (Or.inr rfl) (pe_lst (pa_cons (pv 1) pa_nil)))
  (pss_cons (ps_set (i := 4) sc_useful_numbers.nd rfl (Or.inl rfl) pe_int)
  (pss_cons (ps_while PassesOwn.never (pt_cmpR op_lt (pv 4) (pe_callB (call_lenK (K := K)) (by rfl) T.z_len PySem.boot_len (pa_cons (pv 3) pa_nil)) (nomark _))
    (pss_cons (ps_for PassesOwn.never rfl (pi_listK (K := K) (pv 0)) (pg_tupK (K := K) (n := 2) (by rfl) (pgs_cons (pg_name (i := 5) sc_useful_numbers.nd rfl (Or.inl rfl)) (pgs_cons (pg_name (i := 6) sc_useful_numbers.nd rfl (Or.inl rfl)) pgs_nil)))
    (pss_one (ps_if (PW.pt (pw_and (pt_cmpR op_eq (pv 5) (pe_ix (ix_listK (K := K)) (pv 3) (pv 4) (fun _ _ => rfl)) (nomark _)) (pw_and1 (pt_val (pe_callB (cr_allK (K := K) (by rfl)) (by rfl) T.z_all (by decide +kernel) (pa_cons (pe_lc (own := [("part", 7)]) (g := gName 7) (tt := tYes) (by rfl) sc_useful_numbers.nd (pi_listK (K := K) (pe_call G_names_in (hr.mono (by decide)) (by rfl) T.m_names_in T.f_names_in.kp T.b_names_in .nil pass0 (pa_cons (pv 6) pa_nil))) (blkOk_by (own := [("part", 7)]) (N := n_useful_numbers) (sc := (defScope s_useful_numbers)) (by decide +kernel)) (fun _ _ _ _ _ => (pg_name (i := 7) sc_useful_numbers.nd rfl (Or.inl rfl))) (fun _ _ _ _ _ => pts_nil) (fun _ _ _ _ _ => (pe_cmp (pc_din (hu_of hr) (pv 7) (pv 2)) (by rfl)))) pa_nil))))))
    (pss_one (ps_expr (pe_bmK (K := K) PySem.F.plainAttrs_list PySem.F.slot_list_extend PySem.F.type_list_extend mt_extend (pv 3) (pa_cons (pe_lc (own := [("part", 7)]) (g := gName 7) (by rfl) sc_useful_numbers.nd (pi_listK (K := K) (pe_callB (cr_sortedSetK (P := P) (w := w) (by rfl)) (by rfl) T.z_sorted (by decide +kernel) (pa_cons (pe_callTy (cr_setOfK (K := K) (P := P) (w := w) (by rfl)) (by rfl) T.z_set (by decide +kernel) (pa_cons (pe_call G_names_in (hr.mono (by decide)) (by rfl) T.m_names_in T.f_names_in.kp T.b_names_in .nil pass0 (pa_cons (pv 6) pa_nil)) pa_nil)) pa_nil))) (blkOk_by (own := [("part", 7)]) (N := n_useful_numbers) (sc := (defScope s_useful_numbers)) (by decide +kernel)) (fun _ _ _ _ _ => (pg_name (i := 7) sc_useful_numbers.nd rfl (Or.inl rfl))) (fun _ _ _ _ _ => (pts_one (pt_cmpR (op_notInK (K := K)) (pv 7) (pv 3) (by rfl)))) (fun _ _ _ _ _ => (pv 7))) pa_nil))))
    pss_nil)))
  (pss_one (ps_aug (i := 4) sc_useful_numbers.nd rfl (Or.inl rfl) pe_int ip_add))))
  (pss_one (ps_ret (pe_lc (own := [("number", 8), ("name", 5), ("body", 6)]) (by rfl) sc_useful_numbers.nd (pi_enumK (K := K) (by rfl) T.z_enumerate (pa_cons (pv 0) pa_nil)) (blkOk_by (own := [("number", 8), ("name", 5), ("body", 6)]) (N := n_useful_numbers) (sc := (defScope s_useful_numbers)) (by decide +kernel)) (fun _ _ _ _ _ => (pg_tupK (K := K) (n := 2) (by rfl) (pgs_cons (pg_name (i := 8) sc_useful_numbers.nd rfl (Or.inl rfl)) (pgs_cons (pg_tupK (K := K) (n := 2) (by rfl) (pgs_cons (pg_name (i := 5) sc_useful_numbers.nd rfl (Or.inl rfl)) (pgs_cons (pg_name (i := 6) sc_useful_numbers.nd rfl (Or.inl rfl)) pgs_nil))) pgs_nil)))) (fun _ _ _ _ _ => (pts_one (PW.pt (pw_and (pt_cmpR (op_inK (K := K)) (pv 5) (pv 3) (by rfl)) (pw_and1 (pt_val (pe_callB (cr_allK (K := K) (by rfl)) (by rfl) T.z_all (by decide +kernel) (pa_cons (pe_lc (own := [("part", 7)]) (g := gName 7) (tt := tYes) (by rfl) sc_useful_numbers.nd (pi_listK (K := K) (pe_call G_names_in (hr.mono (by decide)) (by rfl) T.m_names_in T.f_names_in.kp T.b_names_in .nil pass0 (pa_cons (pv 6) pa_nil))) (blkOk_by (own := [("part", 7)]) (N := n_useful_numbers) (sc := (relS { kind := .function, names := [(".0", .local), ("number", .local), ("name", .local), ("body", .local), ("all", .globalImplicit), ("names_in", .globalImplicit), ("lengths", .free), ("reached", .free)], isGenerator := false, isCoroutine := false } (defScope s_useful_numbers))) (by decide +kernel)) (fun _ _ _ _ _ => (pg_name (i := 7) sc_useful_numbers.nd rfl (Or.inl rfl))) (fun _ _ _ _ _ => pts_nil) (fun _ _ _ _ _ => (pe_cmp (pc_din (hu_of hr) (pv 7) (pv 2)) (by rfl)))) pa_nil)))))))) (fun _ _ _ _ _ => (pv 8)))))))), ?_⟩
    refine ⟨_, rfl, by show 1 ≤ sizeLine; rw [sl64]; omega, fun l hl => ?_⟩
    have RL0 : ∃ F', Ext F H F' (upd H l (.lst [vc root])) ∧ F' l = none ∧ (upd H l (.lst [vc root])) l = some (.lst ([root].map vc)) := ⟨F, (Ext.refl sF).newM hl, sF.free hl, upd_same⟩
    refine ⟨fun n σ H' => ∃ (re : List Nat) (i : Nat) (x5 x6 : Option V), σ = [some (.ref ra), some (vc root), some (.ref d), some (.ref l), some (vn i), x5, x6, none, none] ∧
      (∃ F', Ext F H F' H' ∧ F' l = none ∧ H' l = some (.lst (re.map vc))) ∧ NmOk re ∧ n + i = 27 ∧ i ≤ re.length ∧ ureach rules lens n re i = reached rules root lens,
      ⟨27, [root], 0, none, none, rfl, RL0, ⟨by simp, by simpa using hroot⟩, rfl, Nat.zero_le _, rfl⟩, ?_⟩
    rintro n σ H1 ⟨re, i, x5, x6, rfl, ⟨F1, e1, fl1, hl1⟩, hre, hni, hile, hres⟩
    have hfew := hre.few
    refine ⟨_, rfl, _, rfl, l, _, rfl, .inl (SqL.of hl1), _, _, rfl, rfl, _, rfl, ?_⟩
    rw [List.length_map]
    by_cases hlt : i < re.length
    · rw [decide_eq_true (show ((i : Nat) : Int) < ((re.length : Nat) : Int) by omega)]
      obtain ⟨c, hc⟩ : ∃ c, re[i]? = some c := ⟨re[i], List.getElem?_eq_getElem hlt⟩
      obtain ⟨n, rfl⟩ : ∃ n', n = n' + 1 := ⟨n - 1, by omega⟩
      refine iteT ⟨fun σ' H' => ∃ n', n' < n + 1 ∧ ∃ (re : List Nat) (i : Nat) (x5 x6 : Option V), σ' = [some (.ref ra), some (vc root), some (.ref d), some (.ref l), some (vn i), x5, x6, none, none] ∧
        (∃ F', Ext F H F' H' ∧ F' l = none ∧ H' l = some (.lst (re.map vc))) ∧ NmOk re ∧ n' + i = 27 ∧ i ≤ re.length ∧ ureach rules lens n' re i = reached rules root lens, fun _ _ h => h, ?_⟩
      refine ⟨_, rfl, ra, rfl, ⟨_, SqL.of (e1.sm _ _ hra)⟩, for_list (K := K) (a := ra) (xs := rvs) (fun j σ H' => ∃ (x5 x6 : Option V),
        σ = [some (.ref ra), some (vc root), some (.ref d), some (.ref l), some (vn i), x5, x6, none, none] ∧ ∃ F', Ext F H F' H' ∧ F' l = none ∧ H' l = some (.lst (((rules.take j).foldl (uStep lens c) re).map vc)))
        ⟨x5, x6, rfl, F1, e1, fl1, hl1⟩ (fun j σ H' _ h => ?_) ?_ ?_⟩
      · obtain ⟨_, _, _, F', e, _⟩ := h
        exact SqL.of (e.sm _ _ hra)
      · rintro j y σ H2 hy ⟨x5, x6, rfl, F2, e2, fl2, hl2⟩
        obtain ⟨r, t, hr', rfl, ht⟩ := rule_at hal hy
        have hrok := hok r (List.mem_of_getElem? hr')
        have hst := foldl_more (f := uStep lens c) (b := re) hr'
        have hpre : re <+: (rules.take j).foldl (uStep lens c) re := uFold_pre
        have hok2 : NmOk ((rules.take j).foldl (uStep lens c) re) := uFold_ok hre
        generalize (rules.take j).foldl (uStep lens c) re = re2 at hst hl2 hpre hok2 ⊢
        have hc2 : re2[i]? = some c := by
          obtain ⟨q, rfl⟩ := hpre
          rw [List.getElem?_append_left hlt]; exact hc
        refine ⟨t, _, rfl, SqT.of (e2.sm _ _ ht), rfl, _, _, rfl, _, _, rfl, rfl, ?_⟩
        -- if name == reached[index]
        refine ⟨_, rfl, _, rfl, _, rfl, l, _, _, _, rfl, rfl, SqL.of hl2, at_of (j := i) (v := vc c) rfl (map_get' hc2), rfl, _, rfl, ?_⟩
        rw [dec_cc]
        by_cases h1 : r.1 = c
        · rw [decide_eq_true h1]
          refine iteT ?_
          unfold tB tCB tCons
          refine all_in_lc (K := K) (σ := [some (.ref ra), some (vc root), some (.ref d), some (.ref l), some (vn i), some (vc r.1), some (.str (S r.2)), none, none]) (i := 6) (j := 7) (dS := 2) (r := rNat) (m := lens) (b := r.2) (d := d) (kvs := kvs) rfl (fun _ => rfl) (fun _ => rfl) (fun _ => rfl) e2.fh (Rd.of (e2.sm _ _ hd)) (fun H' s => Rd.of (s _ _ (e2.sm _ _ hd))) (ad.mono e2.ff) (by have := hrok.2.1; omega) fun D F3 H3 e3 fD3 => ?_
          refine ⟨D, _, rfl, SqL.of (e3.fh _ _ fD3), _, rfl, ?_⟩
          have e23 := e2.trans e3
          have hl3 := e3.hh _ _ hl2
          have fl3 : F3 l = none := e3.nf l (by rw [hl2]; simp) fl2
          have q1 : (((namesIn r.2).map fun c => (aGet lens c).isSome).all id) = allIn lens r.2 := by rw [List.all_map]; rfl
          rw [q1]
          cases hall : allIn lens r.2 with
          | false =>
            refine iteF ⟨_, _, rfl, F3, e23, fl3, ?_⟩
            rw [hl3, hst]; unfold uStep; rw [if_neg (by rw [hall]; simp)]
          | true =>
            refine iteT ?_
            -- reached.extend([part for part in sorted(set(names_in(body))) if part not in reached])
            refine ⟨_, rfl, .inl ⟨rfl, _, SqL.of hl3⟩, ?_⟩
            refine ⟨_, rfl, F3, _, r.2, rfl, e3.fh, rfl, by have := hrok.2.1; omega, fun v F4 H4 e4 hv => ?_⟩
            obtain ⟨la, lvs, rfl, hla, hlal⟩ := hv
            have hlv : lvs = ((namesIn r.2).map fun c => S [c]).map V.str := by rw [hlal.strs]; show List.map _ (ch1 _) = _; rw [List.map_map, List.map_map]; rfl
            have hnl : (namesIn r.2).length ≤ 4 := Nat.le_trans (namesIn_le _) hrok.2.1
            refine ⟨la, (namesIn r.2).map fun c => S [c], rfl, SqL.of (by rw [← hlv]; exact e4.fh _ _ hla), by rw [List.length_map]; omega, fun p1 hp1 => ?_⟩
            rw [List.length_map]
            refine ⟨p1, _, rfl, upd_same, by have := met_len ((namesIn r.2).map fun c => S [c]) (namesIn r.2).length; omega, fun ys p2 nd hm hs hyl hp2 => ?_⟩
            have hys := sorted_names (b := r.2) nd hm (fun x => by rw [met_mem, show (namesIn r.2).length = ((namesIn r.2).map fun c => S [c]).length by rw [List.length_map], List.take_length]) hs
            subst hys
            rw [List.map_map] at *
            have e5 := (e4.newM hp1 (o := TSO P w p1 (met ((namesIn r.2).map fun c => S [c]) (namesIn r.2).length))).newF hp2 (o := .lst ((sortedNames r.2).map vc))
            refine ⟨p2, rfl, ⟨_, SqL.of upd_same⟩, fun D2 hD2 => ?_⟩
            refine lc_list (K := K) (a := p2) (xs := (sortedNames r.2).map vc) (LcI rC _ _ D2 fun n => ((sortedNames r.2).take n).filter fun x => decide (x ∉ re2)) (LcI.start e5.fh hD2 rfl) (fun n H' _ h => ?_) ?_ ?_
            · obtain ⟨F', ws, e, _⟩ := h
              exact SqL.of (e.sm _ _ upd_same)
            · rintro n y H6 hy ⟨F6, ws, e6, f6, hD6, al6⟩
              obtain ⟨q, hq, rfl⟩ := map_get hy
              have hl6 : H6 l = some (.lst (re2.map vc)) := e6.hh _ _ (e5.hh _ _ hl3)
              refine ⟨rfl, _, rfl, _, rfl, l, _, rfl, .inl (SqL.of hl6), rfl, (inV_cs q re2).1, _, rfl, ?_⟩
              rw [(inV_cs q re2).2]
              by_cases hin : q ∈ re2
              · rw [decide_eq_true hin]
                refine iteF ?_
                exact LcI.no e6 f6 hD6 al6 (Ext.refl e6.fh) (filter_no hq (by simp [hin]))
              · rw [decide_eq_false hin]
                refine iteT ?_
                have hzz : (((sortedNames r.2).take n).filter fun x => decide (x ∉ re2)).length < sizeLine := by
                  have h1 := List.length_filter_le (fun x => decide (x ∉ re2)) ((sortedNames r.2).take n)
                  rw [List.length_take] at h1
                  have h2 := nam_few (sortedNames_nodup r.2) fun x hx => letters_mem.mp (List.mem_filter.mp hx).1
                  rw [sl64]; omega
                refine ⟨_, rfl, ?_⟩
                exact LcI.yes _ hD2 e6 f6 hD6 al6 (Ext.refl e6.fh) rfl (filter_yes hq (by simp [hin])) hzz
            · intro H7 h7
              obtain ⟨F7, vs7, e7, fD7, al7⟩ := h7.frz hD2
              rw [List.length_map, List.take_length] at al7
              have E7 := (e23.trans e5).trans e7
              have hl7 : H7 l = some (.lst (re2.map vc)) := e7.hh _ _ (e5.hh _ _ hl3)
              have fl7 : F7 l = none := (e5.trans e7).nf l (by rw [hl3]; simp) fl3
              have hF := al7.cs
              refine ⟨l, D2, _, _, rfl, rfl, hl7, e7.fh _ _ fD7, ?_, ?_⟩
              · have h1 := List.length_filter_le (fun x => decide (x ∉ re2)) (sortedNames r.2)
                have h2 := nam_few (sortedNames_nodup r.2) fun x hx => letters_mem.mp (List.mem_filter.mp hx).1
                have h3 := hok2.few
                rw [hF, List.length_map, List.length_map, sl64]; omega
              · refine ⟨_, _, rfl, F7, E7.set hl fl7, fl7, ?_⟩
                rw [upd_same, hst, hF]
                unfold uStep
                rw [if_pos ⟨h1, hall⟩, List.map_append]
        · rw [decide_eq_false h1]
          refine iteF ⟨_, _, rfl, F2, e2, fl2, ?_⟩
          rw [hl2, hst]; unfold uStep; rw [if_neg (by simp [h1])]
      · rintro σ H6 ⟨x5, x6, rfl, F6, e6, fl6, hl6⟩
        rw [hal.len, List.take_length] at hl6
        have hpre := uFold_pre (lens := lens) (c := c) (rules := rules) (re := re)
        refine ⟨_, rfl, _, _, rfl, rfl, n, Nat.lt_succ_self _, _, i + 1, x5, x6, rfl, ⟨F6, e6, fl6, hl6⟩, uFold_ok hre, by omega, by have := hpre.length_le; omega, ?_⟩
        rw [← hres, ureach_some hc]
    · rw [decide_eq_false (show ¬ ((i : Nat) : Int) < ((re.length : Nat) : Int) by omega)]
      refine iteF ?_
      have hre' : re = reached rules root lens := by
        rw [← hres]
        exact (ureach_none (List.getElem?_eq_none (by omega))).symm
      refine ⟨_, rfl, ra, rvs, rfl, SqL.of (e1.sm _ _ hra), fun D hD => ?_⟩
      refine lc_it (walk_enum (K := K) (a := ra) (xs := rvs)) (LcI rNat _ _ D fun n => ((rules.zipIdx.take n).filter fun p => usefulAt re lens p.1).map (·.2)) (LcI.start e1.fh hD rfl) (fun n H' _ h => ?_) ?_ ?_
      · obtain ⟨F', ws, e, _⟩ := h
        exact SqL.of (e.sm _ _ (e1.ff _ _ hra))
      · rintro m y H4 H5 hm ⟨F4, ws, e4, f4, hD4, al4⟩ ⟨T5, x1, x2, rfl, hT5, rfl, hx1, hx2⟩
        obtain rfl := Option.some.inj hx1
        obtain ⟨r, t, hr', rfl, ht⟩ := rule_at hal hx2
        have hrok := hok r (List.mem_of_getElem? hr')
        have hz : rules.zipIdx[m]? = some (r, m) := by rw [List.getElem?_zipIdx, hr']; simp
        have E4 := e1.trans e4
        have e5 := e4.newM hT5 (o := .tup [.int (m : Nat), .ref t])
        have E5 := e1.trans e5
        have hD5 : (upd H4 T5 (.tup [V.int (m : Nat), .ref t])) D = some (.lst ws) := by rw [upd_ne (ne_of_none hD4 hT5)]; exact hD4
        have hl5 := e5.hh _ _ hl1
        refine ⟨T5, _, rfl, SqT.of upd_same, rfl, _, _, rfl, _, _, rfl, t, _, rfl, SqT.of (E5.sm _ _ ht), rfl, _, _, rfl, _, _, rfl, rfl, rfl, rfl, ?_⟩
        refine ⟨_, rfl, _, rfl, l, _, rfl, .inl (SqL.of hl5), rfl, (inV_cs r.1 re).1, _, rfl, ?_⟩
        rw [(inV_cs r.1 re).2]
        by_cases hin : r.1 ∈ re
        · rw [decide_eq_true hin]
          refine iteT ?_
          unfold tB tCB tCons
          refine all_in_lc (K := K) (σ := [some (.ref ra), some (vc root), some (.ref d), some (.ref l), some (vn i), some (vc r.1), some (.str (S r.2)), none, some (.int (m : Nat))]) (i := 6) (j := 7) (dS := 2) (r := rNat) (m := lens) (b := r.2) (d := d) (kvs := kvs) rfl (fun _ => rfl) (fun _ => rfl) (fun _ => rfl) e5.fh (Rd.of (E5.sm _ _ hd)) (fun H' s => Rd.of (s _ _ (E5.sm _ _ hd))) (ad.mono E5.ff) (by have := hrok.2.1; omega) fun D7 F7 H7 e7 fD7 => ?_
          refine ⟨D7, _, rfl, SqL.of (e7.fh _ _ fD7), _, rfl, ?_⟩
          rw [show (((namesIn r.2).map fun c => (aGet lens c).isSome).all id) = allIn lens r.2 by rw [List.all_map]; rfl]
          cases hall : allIn lens r.2 with
          | false =>
            refine iteF ?_
            refine LcI.no e4 f4 hD4 al4 ((Ext.refl e4.fh).newM hT5 |>.trans e7) ?_
            show (List.filter _ _).map _ = _
            rw [filter_no hz]
            show usefulAt re lens r = false
            unfold usefulAt; rw [hall, Bool.and_false]
          | true =>
            refine iteT ⟨_, rfl, ?_⟩
            refine LcI.yes m hD e4 f4 hD4 al4 ((Ext.refl e4.fh).newM hT5 |>.trans e7) rfl ?_ ?_
            · show (List.filter _ _).map _ = _
              rw [filter_yes hz, List.map_append]
              · rfl
              · show usefulAt re lens r = true
                unfold usefulAt; rw [hall, Bool.and_true, decide_eq_true hin]
            · rw [List.length_map]
              have h1 := List.length_filter_le (fun p : Rule × Nat => usefulAt re lens p.1) (rules.zipIdx.take m)
              rw [List.length_take, List.length_zipIdx] at h1
              rw [sl64]; omega
        · rw [decide_eq_false hin]
          refine iteF (iteF ?_)
          refine LcI.no e4 f4 hD4 al4 ((Ext.refl e4.fh).newM hT5) ?_
          show (List.filter _ _).map _ = _
          rw [filter_no hz]
          show usefulAt re lens r = false
          unfold usefulAt; rw [decide_eq_false hin, Bool.false_and]
      · intro H7 h7
        obtain ⟨F7, vs7, e7, fD7, al7⟩ := h7.frz hD
        rw [hal.len, ← List.length_zipIdx (l := rules) (i := 0), List.take_length] at al7
        refine k _ _ _ (e1.trans e7) ⟨D, vs7, rfl, fD7, ?_⟩
        unfold usefulNumbers
        rw [← hre']
        exact al7
end
end SF
namespace SF
open PySem PySem.Spec PyProof.Rows L2
abbrev rBest : Rl (Tri Nat (List Nat) Nat) := rT rNat rS rNat
def sp_least_derivations : Sp := Pu3 (rL rRule) (rL rNat) (rD encN rNat) (fun rules numbers lens => rules.length ≤ 16 ∧ numbers.length ≤ 16 ∧ ∀ n ∈ numbers, ∃ r, rules[n]? = some r ∧ RuOk lens r) (rD encN rBest) leastDerivations
section
variable {P : Program} {w : World} {K : PySem.W.Frag} {mg : Str → Option Value} {base : Heap} {a : Ad}
def LDd (F H : Hp) (d : Addr) (m : Best) (H' : Hp) : Prop := ∃ F' kvs, Ext F H F' H' ∧ F' d = none ∧ H' d = some (.dK kvs) ∧ AD encN rBest F' kvs m
theorem ok_least_derivations (T : Txt K mg a) : FnOk P w K mg base CX0 3 a.least_derivations a.d_least_derivations ["rules", "numbers", "lengths"] sp_least_derivations := by
  have G_names_in := ok_names_in (P := P) (w := w) (base := base) T
  have G_is_name := ok_is_name (P := P) (w := w) (base := base) T
  refine T.f_least_derivations.ok sc_least_derivations (fun vs H Q E h => ?_) (fun cdv A outer s H vs Q E hr h => ?_)
  · obtain ⟨F, v0, v1, v2, x, y, z, rfl, _⟩ := h; rfl
  · obtain ⟨F, _, _, _, rules, numbers, lens, rfl, sF, ⟨ra, rvs, rfl, hra, hal⟩, ⟨na, nvs, rfl, hna, hnl⟩, ⟨dl, lkvs, rfl, hdl, adl⟩, ⟨h16, hn16, hok⟩, k⟩ := h
    refine ⟨_, (pss_cons (ps_set (i := 3) sc_least_derivations.nd rfl (Or.inr rfl) pe_dnewK)
  (pss_cons (ps_set (i := 4) sc_least_derivations.nd rfl (Or.inl rfl) pe_bl)
  (pss_cons (ps_while PassesOwn.never (pt_val (pv 4))
    (pss_cons (ps_set (i := 4) sc_least_derivations.nd rfl (Or.inl rfl) pe_bl)
  (pss_one (ps_for PassesOwn.never rfl (pi_listK (K := K) (pv 1)) (pg_name (i := 5) sc_least_derivations.nd rfl (Or.inl rfl))
    (pss_cons (ps_asg (pe_ix (ix_listK (K := K)) (pv 0) (pv 5) (fun _ _ => rfl)) (pg_tupK (K := K) (n := 2) (by rfl) (pgs_cons (pg_name (i := 6) sc_least_derivations.nd rfl (Or.inl rfl)) (pgs_cons (pg_name (i := 7) sc_least_derivations.nd rfl (Or.inl rfl)) pgs_nil))))
  (pss_cons (ps_set (i := 8) sc_least_derivations.nd rfl (Or.inl rfl) (pe_call G_names_in (hr.mono (by decide)) (by rfl) T.m_names_in T.f_names_in.kp T.b_names_in .nil pass0 (pa_cons (pv 7) pa_nil)))
  (pss_cons (ps_set (i := 9) sc_least_derivations.nd rfl (Or.inl rfl) (pe_op op_add (pe_op op_sub (pe_callB call_len_str (by rfl) T.z_len PySem.boot_len (pa_cons (pv 7) pa_nil)) (pe_callB (call_lenK (K := K)) (by rfl) T.z_len PySem.boot_len (pa_cons (pv 8) pa_nil))) (pe_callB (cr_sumK (K := K) (by rfl)) (by rfl) T.z_sum (by decide +kernel) (pa_cons (pe_lc (own := [("part", 12)]) (g := gName 12) (tt := tYes) (by rfl) sc_least_derivations.nd (pi_listK (K := K) (pv 8)) (blkOk_by (own := [("part", 12)]) (N := n_least_derivations) (sc := (defScope s_least_derivations)) (by decide +kernel)) (fun _ _ _ _ _ => (pg_name (i := 12) sc_least_derivations.nd rfl (Or.inl rfl))) (fun _ _ _ _ _ => pts_nil) (fun _ _ _ _ _ => (pe_dget (hu_of hr) (pv 2) (pv 12) (fun _ _ => rfl)))) pa_nil))))
  (pss_cons (ps_if (PW.pt (pw_or (pt_cmpR op_ne (pv 9) (pe_dget (hu_of hr) (pv 2) (pv 6) (fun _ _ => rfl)) (nomark _)) (pw_or1 (pt_not (pt_val (pe_callB (cr_allK (K := K) (by rfl)) (by rfl) T.z_all (by decide +kernel) (pa_cons (pe_lc (own := [("part", 12)]) (g := gName 12) (tt := tYes) (by rfl) sc_least_derivations.nd (pi_listK (K := K) (pv 8)) (blkOk_by (own := [("part", 12)]) (N := n_least_derivations) (sc := (defScope s_least_derivations)) (by decide +kernel)) (fun _ _ _ _ _ => (pg_name (i := 12) sc_least_derivations.nd rfl (Or.inl rfl))) (fun _ _ _ _ _ => pts_nil) (fun _ _ _ _ _ => (pe_cmp (pc_din (hu_of hr) (pv 12) (pv 3)) (by rfl)))) pa_nil)))))))
    (pss_one ps_continue)
    pss_nil)
  (pss_cons (ps_set (i := 10) sc_least_derivations.nd rfl (Or.inl rfl) (pe_op op_add pe_int (pe_callB (cr_sumK (K := K) (by rfl)) (by rfl) T.z_sum (by decide +kernel) (pa_cons (pe_lc (own := [("part", 12)]) (g := gName 12) (tt := tYes) (by rfl) sc_least_derivations.nd (pi_listK (K := K) (pv 8)) (blkOk_by (own := [("part", 12)]) (N := n_least_derivations) (sc := (defScope s_least_derivations)) (by decide +kernel)) (fun _ _ _ _ _ => (pg_name (i := 12) sc_least_derivations.nd rfl (Or.inl rfl))) (fun _ _ _ _ _ => pts_nil) (fun _ _ _ _ _ => (pe_ix (ix_tupK (K := K)) (pe_dget (hu_of hr) (pv 3) (pv 12) (fun _ _ => rfl)) pe_int (fun _ _ => rfl)))) pa_nil))))
  (pss_cons (ps_set (i := 11) sc_least_derivations.nd rfl (Or.inl rfl) (pe_joinK (K := K) pe_str (pe_lc (own := [("char", 13)]) (g := gName 13) (tt := tYes) (by rfl) sc_least_derivations.nd (pi_str (pv 7)) (blkOk_by (own := [("char", 13)]) (N := n_least_derivations) (sc := (defScope s_least_derivations)) (by decide +kernel)) (fun _ _ _ _ _ => (pg_name (i := 13) sc_least_derivations.nd rfl (Or.inl rfl))) (fun _ _ _ _ _ => pts_nil) (fun _ _ _ _ _ => (pe_ifExp (pt_val (pe_call G_is_name (hr.mono (by decide)) (by rfl) T.m_is_name T.f_is_name.kp T.b_is_name .nil pass0 (pa_cons (pv 13) pa_nil))) (pe_ix (ix_tupK (K := K)) (pe_dget (hu_of hr) (pv 3) (pv 13) (fun _ _ => rfl)) pe_int (fun _ _ => rfl)) (pv 13))))))
  (pss_one (ps_if (PW.pt (pw_or (pt_cmp (pc_dnotin (hu_of hr) (pv 6) (pv 3)) (by rfl)) (pw_or1 (pt_cmpR (op_ltSWK (K := K) hr.units) (pe_tup (pa_cons (pv 10) (pa_cons (pv 11) pa_nil))) (pe_slice (sl_tupK (K := K)) (pe_dget (hu_of hr) (pv 3) (pv 6) (fun _ _ => rfl)) po_none (po_some pe_int)) (nomark _)))))
    (pss_cons (ps_dput (hu_of hr) (pv 3) (pv 6) (pe_tup (pa_cons (pv 10) (pa_cons (pv 11) (pa_cons (pv 5) pa_nil)))) rfl)
  (pss_one (ps_set (i := 4) sc_least_derivations.nd rfl (Or.inl rfl) pe_bl)))
    pss_nil))))))))))))
  (pss_one (ps_ret (pv 3)))))), ?_⟩
    have hnv : nvs = numbers.map vn := by rw [hnl.nats, List.map_map]; rfl
    intro d hd
    let St : List (Option V) → Prop := fun σ => True
    refine ⟨fun n σ H' => ∃ (b : Bool) (m : Best) (x5 x6 x7 x8 x9 x10 x11 : Option V), σ = [some (.ref ra), some (.ref na), some (.ref dl), some (.ref d), some (.bl b), x5, x6, x7, x8, x9, x10, x11, none, none] ∧ LDd F H d m H' ∧ LDok lens m ∧
      ((b = true ∧ muD m < n ∧ rounds (ldRound rules lens numbers) n m = leastDerivations rules numbers lens) ∨ (b = false ∧ m = leastDerivations rules numbers lens)), ⟨ldFuel, true, [], none, none, none, none, none, none, none, rfl, ⟨F, [], (Ext.refl sF).newM hd, sF.free hd, upd_same, .nil⟩, LDok.nil _, .inl ⟨rfl, Nat.lt_succ_self _, rfl⟩⟩, ?_⟩
    rintro n σ H1 ⟨b, m, x5, x6, x7, x8, x9, x10, x11, rfl, hD, hm, hb⟩
    refine ⟨_, rfl, b, rfl, ?_⟩
    rcases hb with ⟨rfl, hmu, hres⟩ | ⟨rfl, hres⟩
    · refine iteT ⟨fun σ' H' => ∃ n', n' < n ∧ ∃ (b : Bool) (m : Best) (x5 x6 x7 x8 x9 x10 x11 : Option V), σ' = [some (.ref ra), some (.ref na), some (.ref dl), some (.ref d), some (.bl b), x5, x6, x7, x8, x9, x10, x11, none, none] ∧ LDd F H d m H' ∧ LDok lens m ∧
        ((b = true ∧ muD m < n' ∧ rounds (ldRound rules lens numbers) n' m = leastDerivations rules numbers lens) ∨ (b = false ∧ m = leastDerivations rules numbers lens)), fun _ _ h => h, ?_⟩
      obtain ⟨F1, kvs1, e1, fd1, hd1, ad1⟩ := hD
      refine ⟨_, rfl, na, rfl, ⟨_, SqL.of (e1.sm _ _ hna)⟩, for_list (K := K) (a := na) (xs := nvs) (fun i σ H' => ∃ (x5 x6 x7 x8 x9 x10 x11 : Option V),
        σ = [some (.ref ra), some (.ref na), some (.ref dl), some (.ref d), some (.bl ((numbers.take i).foldl (ldStep rules lens) (m, false)).2), x5, x6, x7, x8, x9, x10, x11, none, none] ∧ LDd F H d ((numbers.take i).foldl (ldStep rules lens) (m, false)).1 H')
        ⟨x5, x6, x7, x8, x9, x10, x11, rfl, F1, kvs1, e1, fd1, hd1, ad1⟩ (fun i σ H' _ h => ?_) ?_ ?_⟩
      · obtain ⟨_, _, _, _, _, _, _, _, F', _, e, _⟩ := h
        exact SqL.of (e.sm _ _ hna)
      · rintro i y σ H2 hy ⟨x5, x6, x7, x8, x9, x10, x11, rfl, F2, kvs, e2, fd2, hd2, ad2⟩
        obtain ⟨num, hnum, rfl⟩ := map_get (hnv ▸ hy)
        obtain ⟨r, hr', hro⟩ := hok num (List.mem_of_getElem? hnum)
        obtain ⟨tv, htv, hrv⟩ := hal.get' hr'
        obtain ⟨t, u1, u2, rfl, ht, h3, h4⟩ := hrv
        rw [show u1 = _ from h3, show u2 = _ from h4] at ht
        have lok : LDok lens ((numbers.take i).foldl (ldStep rules lens) (m, false)).1 := (ldFold (m, false) (fun x hx => hok x (List.mem_of_mem_take hx)) hm).1
        have hst := foldl_more (f := ldStep rules lens) (b := (m, false)) hnum
        generalize (numbers.take i).foldl (ldStep rules lens) (m, false) = st at hst ad2 lok ⊢
        obtain ⟨m2, b2⟩ := st
        -- name, body = rules[number]
        refine ⟨_, rfl, _, rfl, ra, _, _, _, rfl, rfl, SqL.of (e2.sm _ _ hra), at_of (j := num) (v := .ref t) rfl htv, ?_⟩
        refine ⟨t, _, rfl, SqT.of (e2.sm _ _ ht), rfl, _, _, rfl, _, _, rfl, rfl, ?_⟩
        -- parts = names_in(body)
        refine ⟨_, rfl, F2, _, r.2, rfl, e2.fh, rfl, by have := hro.few; omega, fun v F3 H3 e3 hv => ?_⟩
        obtain ⟨la, lvs, rfl, hla, hlal⟩ := hv
        have hlv : lvs = (namesIn r.2).map vc := by rw [hlal.strs]; show List.map _ (ch1 _) = _; rw [List.map_map]; rfl
        subst hlv
        have hnl : (namesIn r.2).length ≤ 4 := Nat.le_trans (namesIn_le _) hro.few
        have hdl2 : ∀ {F' H'}, Ext F2 H2 F' H' → H' dl = some (.dK lkvs) := fun e => (e2.trans e).sm _ _ hdl
        have hget : ∀ c, (aGet lens c).isSome = true → valV lkvs (encN c) = some (vn ((aGet lens c).getD 0)) := fun c hc => by
          rcases AD.get encN_inj c adl with ⟨h1, h2⟩ | ⟨x, v, h1, h2, h3⟩
          · rw [show aGet lens c = none from h1] at hc; cases hc
          · rw [h2, show aGet lens c = some x from h1, show v = .int (x : Int) from h3]; rfl
        have hals : ∀ c ∈ namesIn r.2, (aGet lens c).isSome = true := fun c hc => List.all_eq_true.mp hro.al c hc
        have hlnz : (namesIn r.2).length < sizeLine := by rw [sl64]; omega
        refine ⟨_, rfl, _, rfl, by rw [S_len, sl64]; have := hro.few; omega, _, rfl, la, _, rfl, .inl (SqL.of (e3.fh _ _ hla)), _, _, rfl, rfl, _, rfl, la, rfl, ⟨_, SqL.of (e3.fh _ _ hla)⟩, fun D1 hD1 => ?_⟩
        refine lc_cs (r := rNat) (namesIn r.2) (fun c => (aGet lens c).getD 0) hD1 e3.fh hla hlnz (fun c F4 H4 hc e4 Qy q => ?_) (fun ws F4 H4 e4 fD4 al4 => ?_)
        · refine ⟨rfl, _, rfl, _, rfl, dl, _, rfl, SF.DGet.some (k := encN c) (hdl2 (e3.trans e4)) (hget c (hals c hc)), ?_⟩
          exact q _ F4 H4 (Ext.refl e4.fh) rfl
        have e24 := e3.trans e4
        refine ⟨D1, _, rfl, SqL.of (by rw [e4.fh _ _ fD4, al4.nats]), _, _, rfl, rfl, ?_⟩
        dsimp only
        have etot : (((S r.2).length : Nat) : Int) - ((((namesIn r.2).map vc).length : Nat) : Int) + (((((namesIn r.2).map fun c => (aGet lens c).getD 0).map fun (x : Nat) => (x : Int))).sum) = ((total lens r.2 : Nat) : Int) := by
          rw [sum_ints, List.length_map, S_len]
          unfold total
          have := namesIn_le r.2
          omega
        rw [etot]
        have E4 := e2.trans e24
        have hd4 : H4 d = some (.dK kvs) := e24.hh _ _ hd2
        have fd4 : F4 d = none := e24.nf d (by rw [hd2]; simp) fd2
        -- total != lengths[name] or not all(part in best)
        refine ⟨_, rfl, _, rfl, _, rfl, dl, _, rfl, SF.DGet.some (k := encN r.1) (hdl2 e24) (hget r.1 hro.here), rfl, _, rfl, ?_⟩
        rw [dec_ii]
        have stay : ∀ (y7 y8 y9 y10 y11 : Option V) (F5 H5 : Hp), Ext F4 H4 F5 H5 → ldStep rules lens (m2, b2) num = (m2, b2) → ∃ (x5 x6 x7 x8 x9 x10 x11 : Option V),
            [some (V.ref ra), some (.ref na), some (.ref dl), some (.ref d), some (.bl b2), some (vn num), some (vc r.1), y7, y8, y9, y10, y11, none, none] = [some (V.ref ra), some (.ref na), some (.ref dl), some (.ref d), some (.bl ((numbers.take (i + 1)).foldl (ldStep rules lens) (m, false)).2), x5, x6, x7, x8, x9, x10, x11, none, none] ∧
            LDd F H d ((numbers.take (i + 1)).foldl (ldStep rules lens) (m, false)).1 H5 := fun y7 y8 y9 y10 y11 F5 H5 e5 hs => by
          rw [hst, hs]
          exact ⟨_, _, _, _, _, _, _, rfl, F5, kvs, E4.trans e5, e5.nf d (by rw [hd4]; simp) fd4, e5.hh _ _ hd4, ad2.mono (e24.trans e5).ff⟩
        by_cases ht1 : total lens r.2 = (aGet lens r.1).getD 0
        case neg =>
          rw [decide_eq_false (by omega)]
          refine iteT (iteT ?_)
          refine stay _ _ _ _ _ F4 H4 (Ext.refl e4.fh) (ldStep_no hr' ?_)
          unfold ldDue
          rw [decide_eq_false ht1]
          rfl
        rw [decide_eq_true (by omega)]
        refine iteF ?_
        refine ⟨_, rfl, la, rfl, ⟨_, SqL.of (e4.sm _ _ hla)⟩, fun D2 hD2 => ?_⟩
        have hla4 := e4.ff _ _ hla
        have hval : ∀ c, (aGet m2 c = none ∧ valV kvs (encN c) = none) ∨ ∃ x v, aGet m2 c = some x ∧ valV kvs (encN c) = some v ∧ rBest F2 v x := fun c => AD.get encN_inj c ad2
        refine lc_cs (r := rB) (namesIn r.2) (fun c => (aGet m2 c).isSome) hD2 e4.fh hla4 hlnz (fun c F5 H5 hc e5 Qy q => ?_) (fun ws F5 H5 e5 fD5 al5 => ?_)
        · refine ⟨rfl, _, rfl, _, rfl, d, _, rfl, DGet.k (k := encN c) (e5.hh _ _ hd4), ?_⟩
          have e1 : (valV kvs (encN c)).isSome = (aGet m2 c).isSome := by
            rcases hval c with ⟨h1, h2⟩ | ⟨x, v, h1, h2, h3⟩
            · rw [h1, h2]; rfl
            · rw [h1, h2]; rfl
          rw [e1]
          exact q _ F5 H5 (Ext.refl e5.fh) rfl
        refine ⟨D2, _, rfl, SqL.of (by rw [e5.fh _ _ fD5, al5.bls]), _, rfl, ?_⟩
        have q1 : (((namesIn r.2).map fun c => (aGet m2 c).isSome).all id) = allIn m2 r.2 := by rw [List.all_map]; rfl
        rw [q1]
        have e25 := e24.trans e5
        cases hall : allIn m2 r.2 with
        | false =>
          refine iteT ?_
          refine stay _ _ _ _ _ F5 H5 e5 (ldStep_no hr' ?_)
          unfold ldDue
          rw [show allIn (m2, b2).1 r.2 = false from hall, Bool.and_false]
        | true =>
          refine iteF ?_
          have hdue : ldDue lens m2 r = true := by unfold ldDue; rw [hall, decide_eq_true ht1]; rfl
          have hsome : ∀ c ∈ namesIn r.2, ∃ p z x, aGet m2 c = some x ∧ valV kvs (encN c) = some (.ref p) ∧ F2 p = some (.tup [vn x.a, .str (S x.b), z]) := fun c hc => by
            have hc' := List.all_eq_true.mp hall c hc
            rcases hval c with ⟨h1, h2⟩ | ⟨x, v, h1, h2, p, u, w, z, rfl, h4, h5, h6, _⟩
            · rw [show aGet m2 c = none from h1] at hc'; cases hc'
            · rw [show u = _ from h5, show w = _ from h6] at h4
              exact ⟨p, z, x, h1, h2, h4⟩
          have hd5 : H5 d = some (.dK kvs) := e5.hh _ _ hd4
          have hla5 := e5.ff _ _ hla4
          -- steps
          refine ⟨_, rfl, la, rfl, ⟨_, SqL.of (e5.fh _ _ hla5)⟩, fun D3 hD3 => ?_⟩
          refine lc_cs (r := rNat) (namesIn r.2) (bS m2) hD3 e5.fh hla5 hlnz (fun c F6 H6 hc e6 Qy q => ?_) (fun ws6 F6 H6 e6 fD6 al6 => ?_)
          · obtain ⟨p, z, x, hx, hv, hp⟩ := hsome c hc
            refine ⟨rfl, _, rfl, _, rfl, d, _, rfl, SF.DGet.some (k := encN c) (e6.hh _ _ hd5) hv, p, _, 0, _, rfl, rfl, SqT.of ((e25.trans e6).sm _ _ hp), rfl, ?_⟩
            refine q _ F6 H6 (Ext.refl e6.fh) ?_
            unfold bS
            rw [show aGet m2 c = some x from hx]
            rfl
          refine ⟨D3, _, rfl, SqL.of (by rw [e6.fh _ _ fD6, al6.nats]), _, _, rfl, rfl, ?_⟩
          dsimp only
          have est : (1 : Int) + ((((namesIn r.2).map (bS m2)).map fun (x : Nat) => (x : Int)).sum) = ((ldSteps m2 r.2 : Nat) : Int) := by
            rw [sum_ints]
            unfold ldSteps
            omega
          rw [est]
          have e26 := e25.trans e6
          have hd6 : H6 d = some (.dK kvs) := e6.hh _ _ hd5
          -- word
          refine ⟨⟨_, rfl⟩, _, rfl, _, rfl, fun D4 hD4 => ?_⟩
          refine lc_chars (r := rS) r.2 (ldPart m2) hD4 e6.fh (by have := hro.few; rw [sl64]; omega) (fun c F7 H7 hc e7 Qy q => ?_) (fun ws F7 H7 e7 fD7 al7 => ?_)
          · refine ⟨rfl, _, rfl, [c], rfl, by rw [sl64]; simp, _, rfl, ?_⟩
            cases hn : isName [c] with
            | true =>
              have hn' : nam c = true := hn
              obtain ⟨p, z, x, hx, hv, hp⟩ := hsome c (List.mem_filter.mpr ⟨hc, hn'⟩)
              refine iteT ⟨_, rfl, _, rfl, d, _, rfl, SF.DGet.some (k := encN c) (e7.hh _ _ hd6) hv, p, _, 1, _, rfl, rfl, SqT.of ((e26.trans e7).sm _ _ hp), rfl, ?_⟩
              refine q _ F7 H7 (Ext.refl e7.fh) ?_
              unfold ldPart bW
              rw [hn', if_pos rfl, show aGet m2 c = some x from hx]
              rfl
            | false =>
              have hn' : nam c = false := hn
              refine iteF ⟨_, rfl, q _ F7 H7 (Ext.refl e7.fh) ?_⟩
              unfold ldPart
              rw [hn', if_neg Bool.false_ne_true]
              rfl
          have hws : ws = ((r.2.map (ldPart m2)).map S).map V.str := by rw [al7.strs]; simp [List.map_map, Function.comp_def]
          have hlenw := ldWord_len lok hall
          have hsum : ((r.2.map (ldPart m2)).map List.length).sum = (ldWord m2 r.2).length := by unfold ldWord; rw [List.length_flatten]
          have h24 : (ldWord m2 r.2).length ≤ 24 := by rw [hlenw, ht1]; exact hro.small
          refine ⟨_, D4, (r.2.map (ldPart m2)).map S, rfl, rfl, .inl (SqL.of (by rw [e7.fh _ _ fD7, hws])), ?_, ?_⟩
          · rw [map_len, hsum, S_empty, S_len]
            have := hro.few
            rw [List.length_map, List.length_map]
            simp only [List.length_nil, Nat.mul_zero]
            omega
          rw [S_empty, join_S, joinL_nil]
          have e27 := e26.trans e7
          have hd7 : H7 d = some (.dK kvs) := e7.hh _ _ hd6
          have fd7 : F7 d = none := e27.nf d (by rw [hd2]; simp) fd2
          have hkz : kvs.length < sizeLine := by
            have := lok.few
            have := ad2.len
            rw [sl64]
            omega
          have put : ldBetter m2 r = true → ∀ (p : Addr) (F8 H8 : Hp), Ext F7 H7 F8 H8 → F8 p = some (.tup [vn (ldSteps m2 r.2), .str (S (ldWord m2 r.2)), vn num]) → ∃ (x5 x6 x7 x8 x9 x10 x11 : Option V),
              [some (V.ref ra), some (.ref na), some (.ref dl), some (.ref d), some (.bl true), some (vn num), some (vc r.1), some (.str (S r.2)), some (.ref la), some (.int ((total lens r.2 : Nat) : Int)), some (.int ((ldSteps m2 r.2 : Nat) : Int)), some (.str (S (ldWord m2 r.2))), none, none] = [some (V.ref ra), some (.ref na), some (.ref dl), some (.ref d), some (.bl ((numbers.take (i + 1)).foldl (ldStep rules lens) (m, false)).2), x5, x6, x7, x8, x9, x10, x11, none, none] ∧
              LDd F H d ((numbers.take (i + 1)).foldl (ldStep rules lens) (m, false)).1 (upd H8 d (.dK (putK kvs (encN r.1) (.ref p)))) := fun hb p F8 H8 e8 hp => by
            rw [hst, ldStep_yes hr' hdue hb]
            refine ⟨_, _, _, _, _, _, _, rfl, F8, _, ((e2.trans e27).trans e8).set hd (e8.nf d (by rw [hd7]; simp) fd7), e8.nf d (by rw [hd7]; simp) fd7, upd_same, ?_⟩
            exact (ad2.mono (e27.trans e8).ff).put encN_inj (r := rBest) (x := ⟨ldSteps m2 r.2, ldWord m2 r.2, num⟩) ⟨p, _, _, _, rfl, hp, rfl, rfl, rfl⟩
          refine ⟨_, rfl, _, rfl, d, _, rfl, DGet.k (k := encN r.1) hd7, _, rfl, ?_⟩
          rcases hval r.1 with ⟨h1, h2⟩ | ⟨x, v, h1, h2, q0, u, w0, z, rfl, h4, h5, h6, _⟩
          · rw [h2]
            refine iteT (iteT ⟨_, rfl, _, rfl, _, rfl, by rw [sl64]; simp, fun p hp => ⟨_, rfl, _, rfl, d, _, rfl, DPut.k (k := encN r.1) (by rw [upd_ne (ne_of_none hd7 hp)]; exact hd7) hkz, ?_⟩⟩)
            refine put (by unfold ldBetter; rw [show aGet m2 r.1 = none from h1]) p _ _ ((Ext.refl e7.fh).newF hp) upd_same
          · rw [h2]
            rw [show u = _ from h5, show w0 = _ from h6] at h4
            refine iteF ⟨_, rfl, _, rfl, by rw [sl64]; simp, fun p hp => ⟨_, rfl, _, rfl, d, _, rfl, SF.DGet.some (k := encN r.1) (by rw [upd_ne (ne_of_none hd7 hp)]; exact hd7) h2, ?_⟩⟩
            have e8 := (Ext.refl e7.fh).newF hp (o := .tup [.int ((ldSteps m2 r.2 : Nat) : Int), .str (S (ldWord m2 r.2))])
            have h48 := (e27.trans e8).sm _ _ h4
            refine ⟨_, rfl, q0, _, rfl, SqT.of h48, (by show ¬ (HT.sIx 3 0 none = 0 ∧ HT.sIx 3 3 (some 2) = 3); decide), fun p2 hp2 => ?_⟩
            have e9 := e8.newF hp2 (o := .tup [vn x.a, .str (S x.b)])
            refine ⟨p, p2, ((ldSteps m2 r.2 : Nat) : Int), ((x.a : Nat) : Int), ldWord m2 r.2, x.b, rfl, rfl, SqT.of ?_, SqT.of ?_, _, rfl, ?_⟩
            · rw [upd_ne (by rintro rfl; rw [upd_same] at hp2; cases hp2), upd_same]; rfl
            · exact upd_same
            have hd9 : (upd (upd H7 p (.tup [.int ((ldSteps m2 r.2 : Nat) : Int), .str (S (ldWord m2 r.2))])) p2 (.tup [vn x.a, .str (S x.b)])) d = some (.dK kvs) := e9.hh _ _ hd7
            have hbt : ldBetter m2 r = swLt ((ldSteps m2 r.2 : Nat) : Int) (ldWord m2 r.2) ((x.a : Nat) : Int) x.b := by
              unfold ldBetter
              rw [show aGet m2 r.1 = some x from h1]
              unfold swLt
              show swL _ _ _ _ = _
              unfold swL
              by_cases he : ldSteps m2 r.2 = x.a
              · rw [if_pos he, if_pos (by omega)]
              · rw [if_neg he, if_neg (by omega)]
                by_cases hl : ldSteps m2 r.2 < x.a
                · rw [decide_eq_true hl, decide_eq_true (by omega)]
                · rw [decide_eq_false hl, decide_eq_false (by omega)]
            rw [← hbt]
            cases hb : ldBetter m2 r with
            | true =>
              refine iteT ⟨_, rfl, _, rfl, _, rfl, by rw [sl64]; simp, fun p3 hp3 => ⟨_, rfl, _, rfl, d, _, rfl, DPut.k (k := encN r.1) (by rw [upd_ne (ne_of_none hd9 hp3)]; exact hd9) hkz, ?_⟩⟩
              exact put hb p3 _ _ (e9.newF hp3) upd_same
            | false =>
              refine iteF ?_
              exact stay _ _ _ _ _ _ _ ((e5.trans (e6.trans e7)).trans e9) (ldStep_no2 hr' hb)
      · rintro σ H6 ⟨x5, x6, x7, x8, x9, x10, x11, rfl, F6, kvs6, e6, fd6, hd6, ad6⟩
        rw [show nvs.length = numbers.length by rw [hnv, List.length_map], List.take_length] at ad6
        rw [show nvs.length = numbers.length by rw [hnv, List.length_map], List.take_length]
        obtain ⟨l1, l2, l3, l4⟩ := ldFold (numbers := numbers) (m, false) hok hm
        obtain ⟨n, rfl⟩ : ∃ n', n = n' + 1 := ⟨n - 1, by omega⟩
        have hround : ldRound rules lens numbers m = numbers.foldl (ldStep rules lens) (m, false) := rfl
        refine ⟨n, Nat.lt_succ_self _, _, _, _, _, _, _, _, _, _, rfl, ⟨F6, kvs6, e6, fd6, hd6, ad6⟩, l1, ?_⟩
        unfold rounds at hres
        rw [hround] at hres
        cases hb : (numbers.foldl (ldStep rules lens) (m, false)).2 with
        | true =>
          rw [hb, if_pos rfl] at hres
          have := l3 rfl hb
          have e0 : muD (m, false).1 = muD m := rfl
          rw [e0] at this
          exact .inl ⟨rfl, by omega, hres⟩
        | false =>
          rw [hb, if_neg Bool.false_ne_true] at hres
          exact .inr ⟨rfl, hres⟩
    · refine iteF ⟨_, rfl, ?_⟩
      obtain ⟨F1, kvs1, e1, fd1, hd1, ad1⟩ := hD
      rw [← hres] at k
      exact k _ _ H1 (e1.frz hd hd1 fd1) ⟨d, kvs1, rfl, upd_same, ad1.mono (fun b u q => by rw [upd_ne (ne_of_none q fd1)]; exact q)⟩
end
end SF
namespace SF
open PySem PySem.Spec PyProof.Rows L2
def sp_Table (C : Addr) : Sp := fun vs H Q _ => ∃ (F H2 : Hp) (p dx pa na va : Addr) (pairs : List Pair) (nums : List Nat) (van : List (Nat × Bool)), vs = [.ref p, .ref pa, .ref na, .ref va] ∧ H2 p = none ∧ H = upd H2 p (.ins C dx []) ∧ Same F H2 ∧
  rL (rP rS rS) F (.ref pa) pairs ∧ rL rNat F (.ref na) nums ∧ rD encN rB F (.ref va) van ∧ (∀ n ∈ nums, n < pairs.length) ∧ nums.length ≤ 1000 ∧ ∀ F' H', Ext F H2 F' H' → rTab C F' (.ref p) (mkTab pairs nums van) → Q .non H'
theorem bnStep_len {pairs : List Pair} {m : List (List Nat × List Nat)} {n B : Nat} (h1 : m.length ≤ B) (h2 : ∀ q ∈ m, q.2.length ≤ B) : (bnStep pairs m n).length ≤ B + 1 ∧ ∀ q ∈ bnStep pairs m n, q.2.length ≤ B + 1 := by
  refine ⟨?_, fun q hq => ?_⟩
  · unfold bnStep
    rw [aPut_length]
    split <;> omega
  · unfold bnStep aPut at hq
    have h3 : ((aGet m (headAt pairs n)).getD [] ++ [n]).length ≤ B + 1 := by
      cases e : aGet m (headAt pairs n) with
      | none => simp
      | some x =>
        have := h2 _ (aGet_mem e)
        simp at this ⊢
        omega
    split at hq
    · obtain ⟨p, hp, rfl⟩ := List.mem_map.mp hq
      split
      · exact h3
      · exact Nat.le_succ_of_le (h2 p hp)
    · rcases List.mem_append.mp hq with z | z
      · exact Nat.le_succ_of_le (h2 q z)
      · simp at z
        subst z
        exact h3
section
variable {P : Program} {w : World} {K : PySem.W.Frag} {mg : Str → Option Value} {base : Heap} {a : Ad}
structure BN (H2 : Hp) (b : Addr) (m : List (List Nat × List Nat)) (B : Nat) (H' : Hp) : Prop where
  ex : ∃ kvs, H' b = some (.dK kvs) ∧ AD encS (rML H2) H' kvs m ∧ (kvs.map (·.2)).Nodup
  kn : (m.map (·.1)).Nodup
  l1 : m.length ≤ B
  l2 : ∀ q ∈ m, q.2.length ≤ B
theorem ok_Table (T : Txt K mg a) : FnOk P w K mg base CX0 1 a.Table___init__ a.d_Table___init__ ["self", "pairs", "numbers", "vanishing"] (sp_Table a.Table) := by
  refine T.f_Table___init__.ok sc_Table___init__ (fun vs H Q E h => ?_) (fun cdv A outer s H vs Q E hr h => ?_)
  · obtain ⟨F, H2, p, dx, pa, na, va, x, y, z, rfl, _⟩ := h; rfl
  · obtain ⟨F, H2, p, dx, pa, na, va, pairs, nums, van, rfl, hp, rfl, sF, ⟨_, pvs, e1, hpa, pal⟩, ⟨_, nvs, e2, hna, nal⟩, ⟨_, vkv, e3, hva, vad⟩, hin, h1000, k⟩ := h
    cases e1; cases e2; cases e3
    refine ⟨_, (pss_cons (ps_fldK (K := K) (pv 0) (pv 1))
  (pss_cons (ps_fldK (K := K) (pv 0) (pv 2))
  (pss_cons (ps_fldK (K := K) (pv 0) (pv 3))
  (pss_cons (ps_fldK (K := K) (pv 0) pe_dnewK)
  (pss_one (ps_for PassesOwn.never rfl (pi_listK (K := K) (pv 2)) (pg_name (i := 4) sc_Table___init__.nd rfl (Or.inl rfl))
    (pss_cons (ps_set (i := 5) sc_Table___init__.nd rfl (Or.inl rfl) (pe_ix (ix_tupK (K := K)) (pe_ix (ix_listK (K := K)) (pv 1) (pv 4) (fun _ _ => rfl)) pe_int (fun _ _ => rfl)))
  (pss_cons (ps_if (pt_cmp (pc_dnotin (hu_of hr) (pv 5) (pe_fldK (K := K) (pv 0))) (by rfl))
    (pss_one (ps_dput (hu_of hr) (pe_fldK (K := K) (pv 0)) (pv 5) (pe_lst pa_nil) rfl))
    pss_nil)
  (pss_one (ps_expr (pe_bmK (K := K) PySem.F.plainAttrs_list PySem.F.slot_list_append PySem.F.type_list_append mt_append (pe_dget (hu_of hr) (pe_fldK (K := K) (pv 0)) (pv 5) (fun _ _ => rfl)) (pa_cons (pv 4) pa_nil)))))))))))), ?_⟩
    have nn1 : ¬ (("pairs" : Str) = "numbers") := by decide
    have nn2 : ¬ (("pairs" : Str) = "vanishing") := by decide
    have nn3 : ¬ (("pairs" : Str) = "by_name") := by decide
    have nn4 : ¬ (("numbers" : Str) = "vanishing") := by decide
    have nn5 : ¬ (("numbers" : Str) = "by_name") := by decide
    have nn6 : ¬ (("vanishing" : Str) = "by_name") := by decide
    have hnv : nvs = nums.map vn := by rw [nal.nats, List.map_map]; rfl
    refine ⟨_, rfl, _, rfl, p, _, dx, [], rfl, upd_same, T.k_Table, T.na_Table_pairs, (by show 0 < 1000; decide), ?_⟩
    refine ⟨_, rfl, _, rfl, p, _, dx, _, rfl, upd_same, T.k_Table, T.na_Table_numbers, (by show 1 < 1000; decide), ?_⟩
    rw [putF_nil, putF_ne nn1, putF_nil]
    refine ⟨_, rfl, _, rfl, p, _, dx, _, rfl, upd_same, T.k_Table, T.na_Table_vanishing, (by show 2 < 1000; decide), ?_⟩
    rw [putF_ne nn2, putF_ne nn4, putF_nil]
    refine fun b hb => ⟨_, rfl, p, _, dx, _, rfl, by rw [upd_ne (fun e => by subst e; rw [upd_same] at hb; cases hb), upd_same], T.k_Table, T.na_Table_by_name, (by show 3 < 1000; decide), ?_⟩
    rw [putF_ne nn3, putF_ne nn5, putF_ne nn6, putF_nil]
    have fp : F p = none := sF.free hp
    have hbp : b ≠ p := fun e => by subst e; rw [upd_same] at hb; cases hb
    have hb2 : H2 b = none := by rw [upd_ne hbp, upd_ne hbp, upd_ne hbp, upd_ne hbp] at hb; exact hb
    let fs : List (Str × V) := [("pairs", .ref pa), ("numbers", .ref na), ("vanishing", .ref va), ("by_name", .ref b)]
    have E0 := ((((((Ext.refl sF).newM hp (o := .ins a.Table dx [])).set hp fp (o := .ins a.Table dx [("pairs", .ref pa)])).set hp fp (o := .ins a.Table dx [("pairs", .ref pa), ("numbers", .ref na)])).set hp fp
      (o := .ins a.Table dx [("pairs", .ref pa), ("numbers", .ref na), ("vanishing", .ref va)])).newM hb (o := .dK [])).set hp fp (o := .ins a.Table dx fs)
    have s0 := E0.hh
    refine ⟨_, rfl, na, rfl, ⟨_, SqL.of (s0 _ _ (sF _ _ hna))⟩, for_list (K := K) (a := na) (xs := nvs) (fun i σ H' => ∃ (x4 x5 : Option V),
      σ = [some (.ref p), some (.ref pa), some (.ref na), some (.ref va), x4, x5] ∧ Same H2 H' ∧ H' p = some (.ins a.Table dx fs) ∧ BN H2 b ((nums.take i).foldl (bnStep pairs) []) i H') ?_ (fun i σ H' _ h => ?_) ?_ ?_⟩
    · refine ⟨none, none, rfl, s0, upd_same, ⟨⟨[], by rw [upd_ne hbp, upd_same], .nil, List.nodup_nil⟩, List.nodup_nil, Nat.le_refl _, fun q hq => by cases hq⟩⟩
    · obtain ⟨_, _, _, s1, _⟩ := h
      exact SqL.of (s1 _ _ (sF _ _ hna))
    · rintro i y σ H3 hy ⟨x4, x5, rfl, s3, hp3, bn⟩
      obtain ⟨n, hn, rfl⟩ := map_get (hnv ▸ hy)
      have hst := foldl_more (f := bnStep pairs) (b := []) hn
      rw [hst]
      generalize (nums.take i).foldl (bnStep pairs) [] = m at bn ⊢
      obtain ⟨⟨kvs, hb3, ad, vnd⟩, kn, l1, l2⟩ := bn
      have hi : i < 1000 := by have := (List.getElem?_eq_some_iff.mp hn).1; omega
      have hnp : n < pairs.length := hin n (List.mem_of_getElem? hn)
      obtain ⟨t, ht, u, w1, w2, rfl, hu, h5, h6⟩ := pal.get' (List.getElem?_eq_getElem hnp)
      rw [show w1 = _ from h5, show w2 = _ from h6] at hu
      have hhd : headAt pairs n = pairs[n].1 := by unfold headAt; rw [List.getElem?_eq_getElem hnp]; rfl
      obtain ⟨bnl1, bnl2⟩ := bnStep_len (pairs := pairs) (n := n) l1 l2
      unfold bnStep at bnl1 bnl2 ⊢
      rw [hhd] at bnl1 bnl2 ⊢
      generalize pairs[n].1 = hd at hu bnl1 bnl2 ⊢
      -- name = pairs[number][0]
      refine ⟨_, rfl, _, rfl, pa, _, _, _, rfl, rfl, SqL.of (s3 _ _ (sF _ _ hpa)), at_of (j := n) (v := .ref u) rfl ht, u, _, 0, _, rfl, rfl, SqT.of (s3 _ _ (sF _ _ hu)), rfl, ?_⟩
      have hlook : List.lookup (Str.ofString "by_name") fs = some (.ref b) := by
        show List.lookup ("by_name" : Str) [("pairs", V.ref pa), ("numbers", .ref na), ("vanishing", .ref va), ("by_name", .ref b)] = _
        rw [look_ne (by decide), look_ne (by decide), look_ne (by decide), look_eq]
      -- the rest: append to the list that stands there
      have app : ∀ (m1 : List (List Nat × List Nat)) (kvs1 : List (Key × V)) (H4 : Hp) (l : Addr) (x : List Nat), Same H2 H4 → H4 p = some (.ins a.Table dx fs) → H4 b = some (.dK kvs1) → AD encS (rML H2) H4 kvs1 m1 → (kvs1.map (·.2)).Nodup → (m1.map (·.1)).Nodup →
          valV kvs1 (encS hd) = some (.ref l) → aGet m1 hd = some x → x.length ≤ i → aPut m1 hd (x ++ [n]) = aPut m hd ((aGet m hd).getD [] ++ [n]) →
          tDrop (tBM K "list" rAppend (tDGet (tFld K (tVar 0) "by_name") (tVar 5)) (tCons (tVar 4) tNil)) { nx := fun σ H' => ∃ (x4 x5 : Option V), σ = [some (.ref p), some (.ref pa), some (.ref na), some (.ref va), x4, x5] ∧ Same H2 H' ∧ H' p = some (.ins a.Table dx fs) ∧ BN H2 b (aPut m hd ((aGet m hd).getD [] ++ [n])) (i + 1) H', rt := Q }
            [some (.ref p), some (.ref pa), some (.ref na), some (.ref va), some (vn n), some (.str (S hd))] H4 := by
        intro m1 kvs1 H4 l x s4 hp4 hb4 ad4 vnd4 kn4 hv hx hxi hput
        have hl : H4 l = some (.lst (x.map vn)) ∧ H2 l = none := by
          rcases AD.get encS_inj hd ad4 with ⟨h1, h2⟩ | ⟨x', v, h1, h2, l', rfl, h3, h4⟩
          · rw [h2] at hv; cases hv
          · rw [h2] at hv; cases hv
            rw [hx] at h1; cases h1
            exact ⟨h3, h4⟩
        refine ⟨_, rfl, p, _, dx, fs, _, rfl, hp4, T.k_Table, T.na_Table_by_name, hlook, _, rfl, b, _, rfl, SF.DGet.some (k := encS hd) hb4 hv, .inl ⟨rfl, _, SqL.of hl.1⟩, _, rfl, l, _, _, rfl, rfl, hl.1, by rw [List.length_map, sl64]; omega, ?_⟩
        have hlp : l ≠ p := fun e => by subst e; rw [hl.1] at hp4; cases hp4
        have hlb : l ≠ b := fun e => by subst e; rw [hl.1] at hb4; cases hb4
        refine ⟨_, _, rfl, fun c o hc => by rw [upd_ne (fun e => by subst e; rw [hl.2] at hc; cases hc)]; exact s4 c o hc, by rw [upd_ne hlp.symm]; exact hp4, ⟨⟨kvs1, by rw [upd_ne hlb.symm]; exact hb4, ?_, vnd4⟩, ?_, bnl1, bnl2⟩⟩
        · have := AD.chg (y := x ++ [n]) hl.2 ad4 vnd4 kn4 hv
          rw [hput, List.map_append] at this
          exact this
        · exact aPut_nodup kn
      -- if name not in self.by_name
      refine ⟨_, rfl, _, rfl, p, _, dx, fs, _, rfl, hp3, T.k_Table, T.na_Table_by_name, hlook, b, _, rfl, DGet.k (k := encS hd) hb3, _, rfl, ?_⟩
      rcases AD.get encS_inj hd ad with ⟨h1, h2⟩ | ⟨x, v, h1, h2, h3⟩
      · rw [h2]
        refine iteT ⟨by rw [sl64]; simp, fun l hl => ⟨_, rfl, p, _, dx, fs, _, rfl, by rw [upd_ne (ne_of_none hp3 hl)]; exact hp3, T.k_Table, T.na_Table_by_name, hlook, _, rfl, b, _, rfl, DPut.k (k := encS hd) (kvs := kvs) (by rw [upd_ne (ne_of_none hb3 hl)]; exact hb3) (by have := ad.len; rw [sl64]; omega), ?_⟩⟩
        have hl2 : H2 l = none := s3.free hl
        have hpb : p ≠ b := hbp.symm
        have hlb : l ≠ b := fun e => by subst e; rw [hl] at hb3; cases hb3
        have ad2 : AD encS (rML H2) (upd H3 l (.lst [])) kvs m := ad.mono (fun c o hc => by rw [upd_ne (ne_of_none hc hl)]; exact hc)
        have ad3 := AD.put encS_inj (k := hd) (v := .ref l) (x := []) (r := rML H2) ⟨l, rfl, upd_same, hl2⟩ ad2
        have hany : (kvs.any fun kv => decide (kv.1 = encS hd)) = false := by rw [valV_any, h2]; rfl
        have hpk : putK kvs (encS hd) (.ref l) = kvs ++ [(encS hd, .ref l)] := by unfold putK; rw [hany, if_neg Bool.false_ne_true]
        have vnd3 : ((putK kvs (encS hd) (.ref l)).map (·.2)).Nodup := by
          rw [hpk, List.map_append, List.nodup_append]
          exact ⟨vnd, by simp, fun x hx y hy => by simp at hy; subst hy; exact fun e => AD.notin0 hl ad (e ▸ hx)⟩
        have hn3 : .ref b ∉ (putK kvs (encS hd) (.ref l)).map (·.2) := AD.notin (o := .dK kvs) (by rw [upd_ne hlb.symm]; exact hb3) (fun xs e => by cases e) ad3
        refine app (aPut m hd []) _ _ l [] (fun c o hc => ?_) ?_ upd_same (ad3.updM hn3) vnd3 (aPut_nodup kn) ?_ ?_ (Nat.zero_le _) ?_
        · rw [upd_ne (fun e => by subst e; rw [hb2] at hc; cases hc), upd_ne (fun e => by subst e; rw [hl2] at hc; cases hc)]; exact s3 c o hc
        · rw [upd_ne hpb, upd_ne (ne_of_none hp3 hl)]; exact hp3
        · rw [valV_put, if_pos rfl]
        · rw [aGet_put, if_pos rfl]
        · rw [aPut_put, h1]; rfl
      · rw [h2]
        obtain ⟨l, rfl, h4, h5⟩ := h3
        refine iteF ?_
        exact app m kvs H3 l x s3 hp3 hb3 ad vnd kn h2 h1 (l2 _ (aGet_mem h1)) (by rw [h1]; rfl)
    · rintro σ H6 ⟨x4, x5, rfl, s6, hp6, ⟨⟨kvs, hb6, ad, vnd⟩, kn, l1, l2⟩⟩
      rw [show nvs.length = nums.length by rw [hnv, List.length_map], List.take_length] at ad
      have eA := Ext.all sF s6
      refine k (allF F H2 H6) H6 eA ⟨p, dx, pa, na, va, b, rfl, (allF_new hp).trans hp6, Mono.mono eA.ff ⟨pa, pvs, rfl, hpa, pal⟩, Mono.mono eA.ff ⟨na, nvs, rfl, hna, nal⟩, Mono.mono eA.ff ⟨va, vkv, rfl, hva, vad⟩, b, kvs, rfl, (allF_new hb2).trans hb6, ad.fin⟩
end
end SF
namespace SF
open PySem PySem.Spec PyProof.Rows L2
abbrev gfs (u0 : V) (rt : Nat) (u2 u3 u4 u5 : V) : List (Str × V) := [("_rules", u0), ("root", vc rt), ("_useful", u2), ("_best", u3), ("forward", u4), ("backward", u5)]
def rGram (G C : Addr) : Rl Gram := fun F v g => ∃ p dx u0 u2 u3 u4 u5, v = .ref p ∧ F p = some (.ins G dx (gfs u0 g.root u2 u3 u4 u5)) ∧ rL rRule F u0 g.rules ∧ rL rNat F u2 g.useful ∧ rD encN rBest F u3 g.best ∧ rTab C F u4 g.fwd ∧ rTab C F u5 g.bwd
instance {G C : Addr} : Mono (rGram G C) := ⟨fun s h => by
  obtain ⟨p, dx, u0, u2, u3, u4, u5, e, h0, h1, h2, h3, h4, h5⟩ := h
  exact ⟨p, dx, u0, u2, u3, u4, u5, e, s _ _ h0, Mono.mono s h1, Mono.mono s h2, Mono.mono s h3, Mono.mono s h4, Mono.mono s h5⟩⟩
def sp_Grammar (G C : Addr) : Sp := fun vs H Q _ => ∃ (F H2 : Hp) (p dx la : Addr) (rt : V) (rvs : List V) (g : Gram), vs = [.ref p, .ref la, rt] ∧ H2 p = none ∧ H = upd H2 p (.ins G dx []) ∧ Same F H2 ∧
  H2 la = some (.lst rvs) ∧ Al rRule F rvs g.rules ∧ ((rt = .non ∧ g.rules[0]?.map (·.1) = some g.root) ∨ rt = vc g.root) ∧ g.Ok ∧ ∀ F' H', Ext F H2 F' H' → rGram G C F' (.ref p) g → Q .non H'
section
variable {P : Program} {w : World} {K : PySem.W.Frag} {mg : Str → Option Value} {base : Heap} {a : Ad}
theorem ok_Grammar (T : Txt K mg a) : FnOk P w K mg base CX0 4 a.Grammar___init__ a.d_Grammar___init__ ["self", "rules", "root"] (sp_Grammar a.Grammar a.Table) := by
  have G_is_name := ok_is_name (P := P) (w := w) (base := base) T
  have G_is_body := ok_is_body (P := P) (w := w) (base := base) T
  have G_least_lengths := ok_least_lengths (P := P) (w := w) (base := base) T
  have G_useful_numbers := ok_useful_numbers (P := P) (w := w) (base := base) T
  have G_least_derivations := ok_least_derivations (P := P) (w := w) (base := base) T
  have G_Table___init__ := ok_Table (P := P) (w := w) (base := base) T
  refine T.f_Grammar___init__.ok sc_Grammar___init__ (fun vs H Q E h => ?_) (fun cdv A outer s H vs Q E hr h => ?_)
  · obtain ⟨F, H2, p, dx, la, rt, rvs, g, rfl, _⟩ := h; rfl
  · obtain ⟨F, H2, p, dx, la, rt, rvs, g, rfl, hp, rfl, sF, hla, hal, hrt, hok, k⟩ := h
    refine ⟨_, PSs.nox (pss_cons (ps_if (pt_not (pt_chain op_le op_le pe_int (pe_callB (call_lenK (K := K)) (by rfl) T.z_len PySem.boot_len (pa_cons (pv 1) pa_nil)) (pe_conK (K := K) (pv 0))))
    (pss_one ps_never)
    pss_nil)
  (pss_cons (ps_for PassesOwn.never rfl (pi_enumK (K := K) (by rfl) T.z_enumerate (pa_cons (pv 1) pa_nil)) (pg_tupK (K := K) (n := 2) (by rfl) (pgs_cons (pg_name (i := 3) sc_Grammar___init__.nd rfl (Or.inl rfl)) (pgs_cons (pg_tupK (K := K) (n := 2) (by rfl) (pgs_cons (pg_name (i := 4) sc_Grammar___init__.nd rfl (Or.inl rfl)) (pgs_cons (pg_name (i := 5) sc_Grammar___init__.nd rfl (Or.inl rfl)) pgs_nil))) pgs_nil)))
    (pss_one (ps_if (PW.pt (pw_or (pt_not (pt_val (pe_call G_is_name (hr.mono (by decide)) (by rfl) T.m_is_name T.f_is_name.kp T.b_is_name .nil pass0 (pa_cons (pv 4) pa_nil)))) (pw_or1 (pt_not (pt_val (pe_call G_is_body (hr.mono (by decide)) (by rfl) T.m_is_body T.f_is_body.kp T.b_is_body .nil pass0 (pa_cons (pv 5) pa_nil)))))))
    (pss_one ps_never)
    pss_nil)))
  (pss_cons (ps_fldK (K := K) (pv 0) (pe_callTy (call_listK (K := K)) (by rfl) T.z_list (by decide +kernel) (pa_cons (pv 1) pa_nil)))
  (pss_cons (ps_fldK (K := K) (pv 0) (pe_ifExp (pt_cmpR op_isN (pv 2) pe_non (nomark _)) (pe_ix (ix_tupK (K := K)) (pe_ix (ix_listK (K := K)) (pv 1) pe_int (fun _ _ => rfl)) pe_int (fun _ _ => rfl)) (pv 2)))
  (pss_cons (ps_if (pt_cmpR (op_notInK (K := K)) (pe_fldK (K := K) (pv 0)) (pe_lc (own := [("name", 4), ("body", 5)]) (tt := tYes) (by rfl) sc_Grammar___init__.nd (pi_listK (K := K) (pv 1)) (blkOk_by (own := [("name", 4), ("body", 5)]) (N := n_Grammar___init__) (sc := (defScope s_Grammar___init__)) (by decide +kernel)) (fun _ _ _ _ _ => (pg_tupK (K := K) (n := 2) (by rfl) (pgs_cons (pg_name (i := 4) sc_Grammar___init__.nd rfl (Or.inl rfl)) (pgs_cons (pg_name (i := 5) sc_Grammar___init__.nd rfl (Or.inl rfl)) pgs_nil)))) (fun _ _ _ _ _ => pts_nil) (fun _ _ _ _ _ => (pv 4))) (by rfl))
    (pss_one ps_never)
    pss_nil)
  (pss_cons (ps_set (i := 6) sc_Grammar___init__.nd rfl (Or.inr rfl) (pe_call G_least_lengths (hr.mono (by decide)) (by rfl) T.m_least_lengths T.f_least_lengths.kp T.b_least_lengths .nil pass0 (pa_cons (pe_fldK (K := K) (pv 0)) pa_nil)))
  (pss_cons (ps_if (pt_cmp (pc_dnotin (hu_of hr) (pe_fldK (K := K) (pv 0)) (pv 6)) (by rfl))
    (pss_one ps_never)
    pss_nil)
  (pss_cons (ps_fldK (K := K) (pv 0) (pe_call G_useful_numbers (hr.mono (by decide)) (by rfl) T.m_useful_numbers T.f_useful_numbers.kp T.b_useful_numbers .nil pass0 (pa_cons (pe_fldK (K := K) (pv 0)) (pa_cons (pe_fldK (K := K) (pv 0)) (pa_cons (pv 6) pa_nil)))))
  (pss_cons (ps_set (i := 7) sc_Grammar___init__.nd rfl (Or.inl rfl) (pe_callB (cr_maxK (K := K) (by rfl)) (by rfl) T.z_max (by decide +kernel) (pa_cons (pe_lc (own := [("number", 3)]) (g := gName 3) (tt := tYes) (by rfl) sc_Grammar___init__.nd (pi_listK (K := K) (pe_fldK (K := K) (pv 0))) (blkOk_by (own := [("number", 3)]) (N := n_Grammar___init__) (sc := (defScope s_Grammar___init__)) (by decide +kernel)) (fun _ _ _ _ _ => (pg_name (i := 3) sc_Grammar___init__.nd rfl (Or.inl rfl))) (fun _ _ _ _ _ => pts_nil) (fun _ _ _ _ _ => (pe_dget (hu_of hr) (pv 6) (pe_ix (ix_tupK (K := K)) (pe_ix (ix_listK (K := K)) (pe_fldK (K := K) (pv 0)) (pv 3) (fun _ _ => rfl)) pe_int (fun _ _ => rfl)) (fun _ _ => rfl)))) pa_nil)))
  (pss_cons (ps_if (pt_cmpR op_gt (pv 7) (pe_globi (by rfl) T.c_MOST_WORD) (nomark _))
    (pss_one ps_never)
    pss_nil)
  (pss_cons (ps_fldK (K := K) (pv 0) (pe_call G_least_derivations (hr.mono (by decide)) (by rfl) T.m_least_derivations T.f_least_derivations.kp T.b_least_derivations .nil pass0 (pa_cons (pe_fldK (K := K) (pv 0)) (pa_cons (pe_fldK (K := K) (pv 0)) (pa_cons (pv 6) pa_nil)))))
  (pss_cons (ps_set (i := 8) sc_Grammar___init__.nd rfl (Or.inl rfl) (pe_callB (cr_maxK (K := K) (by rfl)) (by rfl) T.z_max (by decide +kernel) (pa_cons (pe_lock (pe_lc (own := [("name", 4)]) (g := gName 4) (tt := tYes) (by rfl) sc_Grammar___init__.nd (pi_keys (pe_fldK (K := K) (pv 0))) (blkOk_by (own := [("name", 4)]) (N := n_Grammar___init__) (sc := (defScope s_Grammar___init__)) (by decide +kernel)) (fun _ _ _ _ _ => (pg_name (i := 4) sc_Grammar___init__.nd rfl (Or.inl rfl))) (fun _ _ _ _ _ => pts_nil) (fun _ _ _ _ _ => (pe_ix (ix_tupK (K := K)) (pe_dget (hu_of hr) (pe_fldK (K := K) (pv 0)) (pv 4) (fun _ _ => rfl)) pe_int (fun _ _ => rfl))))) pa_nil)))
  (pss_cons (ps_if (pt_cmpR op_gt (pv 8) (pe_globi (by rfl) T.c_MOST_STEPS) (nomark _))
    (pss_one ps_never)
    pss_nil)
  (pss_cons (ps_set (i := 9) sc_Grammar___init__.nd rfl (Or.inl rfl) (pe_op op_cat (pe_fldK (K := K) (pv 0)) (pe_lst (pa_cons (pe_tup (pa_cons pe_str (pa_cons (pe_op op_add_str (pe_op op_add_str pe_str (pe_fldK (K := K) (pv 0))) pe_str) pa_nil))) pa_nil))))
  (pss_cons (ps_set (i := 10) sc_Grammar___init__.nd rfl (Or.inl rfl) (pe_op op_cat (pe_fldK (K := K) (pv 0)) (pe_lst (pa_cons (pe_callB (call_lenK (K := K)) (by rfl) T.z_len PySem.boot_len (pa_cons (pe_fldK (K := K) (pv 0)) pa_nil)) pa_nil))))
  (pss_cons (ps_lock (ps_setDc (i := 11) (own := [("name", 4)]) (g := gName 4) (by rfl) sc_Grammar___init__.nd rfl rfl (sw_trueD rfl rfl rfl (by decide +kernel)) (pi_keys (pe_fldK (K := K) (pv 0))) (blkOk_by (own := [("name", 4)]) (N := n_Grammar___init__) (sc := (defScope s_Grammar___init__)) (by decide +kernel)) (fun _ _ _ _ _ => (pg_name (i := 4) sc_Grammar___init__.nd rfl (Or.inl rfl))) (fun _ _ _ _ _ => (pts_one (pt_cmpR op_eq (pe_dget (hu_of hr) (pv 6) (pv 4) (fun _ _ => rfl)) pe_int (nomark _)))) (fun _ _ _ _ _ => (pv 4)) (fun _ _ _ _ _ => pe_bl)))
  (pss_cons (ps_fldK (K := K) (pv 0) (pe_make T.k_mk_Table G_Table___init__ (hr.mono (by decide)) (by rfl) T.m_Table T.b_Table___init__ .nil pass0 (pa_cons (pv 9) (pa_cons (pv 10) (pa_cons (pv 11) pa_nil)))))
  (pss_one (ps_fldK (K := K) (pv 0) (pe_make T.k_mk_Table G_Table___init__ (hr.mono (by decide)) (by rfl) T.m_Table T.b_Table___init__ .nil pass0 (pa_cons (pe_lc (own := [("name", 4), ("body", 5)]) (tt := tYes) (by rfl) sc_Grammar___init__.nd (pi_listK (K := K) (pv 9)) (blkOk_by (own := [("name", 4), ("body", 5)]) (N := n_Grammar___init__) (sc := (defScope s_Grammar___init__)) (by decide +kernel)) (fun _ _ _ _ _ => (pg_tupK (K := K) (n := 2) (by rfl) (pgs_cons (pg_name (i := 4) sc_Grammar___init__.nd rfl (Or.inl rfl)) (pgs_cons (pg_name (i := 5) sc_Grammar___init__.nd rfl (Or.inl rfl)) pgs_nil)))) (fun _ _ _ _ _ => pts_nil) (fun _ _ _ _ _ => (pe_tup (pa_cons (pv 4) (pa_cons (pe_revS (pv 5)) pa_nil))))) (pa_cons (pv 10) (pa_cons (pv 11) pa_nil))))))))))))))))))))))), ?_⟩
    have fp : F p = none := sF.free hp
    obtain ⟨n1, n16⟩ := hok.few
    have hrlen : rvs.length = g.rules.length := hal.len
    have isb : ∀ r ∈ g.rules, isName [r.1] = true ∧ isBody r.2 = true := fun r hr => by
      obtain ⟨h1, h2, h3⟩ := hok.rok r hr
      refine ⟨h1, ?_⟩
      unfold isBody
      rw [decide_eq_true h2, Bool.true_and, List.all_eq_true]
      exact h3
    have E0 : Ext F H2 F (upd H2 p (.ins a.Grammar dx [])) := (Ext.refl sF).newM hp
    have hla0 := E0.hh _ _ hla
    -- if not 1 <= len(rules) <= self.MOST_RULES
    obtain ⟨uc, hcon⟩ := T.con_Grammar_MOST_RULES
    refine ⟨_, rfl, la, rvs, rfl, .inl (SqL.of hla0), _, _, rfl, rfl, _, rfl, ?_⟩
    rw [hrlen, decide_eq_true (show (1 : Int) ≤ ((g.rules.length : Nat) : Int) by omega)]
    refine iteT ⟨_, rfl, p, _, dx, [], _, uc, rfl, upd_same, T.k_Grammar, hcon, rfl, _, _, rfl, rfl, _, rfl, ?_⟩
    rw [decide_eq_true (show ((g.rules.length : Nat) : Int) ≤ 16 by omega)]
    refine iteF ?_
    -- for number, (name, body) in enumerate(rules)
    refine ⟨_, rfl, la, rvs, rfl, SqL.of hla0, for_it (walk_enum (K := K) (a := la) (xs := rvs)) (fun i σ H' => ∃ (x3 x4 x5 : Option V),
      σ = [some (.ref p), some (.ref la), some rt, x3, x4, x5, none, none, none, none, none, none] ∧ ∃ F', Ext F H2 F' H' ∧ F' p = none ∧ H' p = some (.ins a.Grammar dx [])) ⟨none, none, none, rfl, F, E0, fp, upd_same⟩ (fun i σ H' _ h => ?_) ?_ ?_⟩
    · obtain ⟨_, _, _, _, F', e, _⟩ := h
      exact SqL.of (e.hh _ _ hla)
    · rintro i y σ H3 H4 hi ⟨x3, x4, x5, rfl, F3, e3, f3, hp3⟩ ⟨T5, x1, x2, rfl, hT5, rfl, hx1, hx2⟩
      obtain rfl := Option.some.inj hx1
      obtain ⟨r, t, hr', rfl, ht⟩ := rule_at hal hx2
      obtain ⟨b1, b2⟩ := isb r (List.mem_of_getElem? hr')
      have e4 := e3.newM hT5 (o := .tup [.int (i : Nat), .ref t])
      refine ⟨T5, _, rfl, SqT.of upd_same, rfl, _, _, rfl, _, _, rfl, t, _, rfl, SqT.of (e4.sm _ _ ht), rfl, _, _, rfl, _, _, rfl, rfl, rfl, ?_⟩
      refine ⟨_, rfl, [r.1], rfl, by rw [sl64]; simp, _, rfl, ?_⟩
      rw [b1]
      refine iteF ⟨_, rfl, F3, r.2, rfl, e4.fh, by have := (hok.rok r (List.mem_of_getElem? hr')).2.1; omega, fun F5 H5 e5 => ⟨_, rfl, ?_⟩⟩
      rw [b2]
      have hp4 : (upd H3 T5 (.tup [.int (i : Nat), .ref t])) p = some (.ins a.Grammar dx []) := by rw [upd_ne (ne_of_none hp3 hT5)]; exact hp3
      exact iteF ⟨_, _, _, rfl, F5, e4.trans e5, e5.nf p (by rw [hp4]; simp) f3, e5.hh _ _ hp4⟩
    rintro σ H3 ⟨x3, x4, x5, rfl, F3, e3, f3, hp3⟩
    clear E0 hla0
    have hla3 := e3.hh _ _ hla
    -- self._rules = list(rules)
    refine ⟨_, rfl, la, rvs, rfl, .inl (SqL.of hla3), fun l hl => ⟨_, rfl, p, _, dx, [], rfl, by rw [upd_ne (ne_of_none hp3 hl)]; exact hp3, T.k_Grammar, T.na_Grammar__rules, (by show 0 < 1000; decide), ?_⟩⟩
    rw [putF_nil]
    have e4 := ((e3.newF hl (o := .lst rvs)).set hp (by rw [upd_ne (fun e => by subst e; rw [hp3] at hl; cases hl)]; exact f3) (o := .ins a.Grammar dx [("_rules", .ref l)]))
    have hlF : (upd F3 l (HO.lst rvs)) l = some (.lst rvs) := upd_same
    have f4 : (upd F3 l (HO.lst rvs)) p = none := by rw [upd_ne (fun e => by subst e; rw [hp3] at hl; cases hl)]; exact f3
    have hp4 : (upd (upd H3 l (.lst rvs)) p (.ins a.Grammar dx [("_rules", .ref l)])) p = some (.ins a.Grammar dx [("_rules", .ref l)]) := upd_same
    generalize upd F3 l (HO.lst rvs) = F4 at e4 hlF f4
    generalize upd (upd H3 l (.lst rvs)) p (.ins a.Grammar dx [("_rules", .ref l)]) = H4 at e4 hp4 ⊢
    clear hp3 f3 hla3 hl
    have hla4 := e4.hh _ _ hla
    -- self.root = rules[0][0] if root is None else root
    have setroot : ∀ (Q2 : L2.St → Hp → Prop) (σ : L2.St), σ[0]? = some (some (.ref p)) → σ[1]? = some (some (.ref la)) → σ[2]? = some (some rt) → Q2 σ (upd H4 p (.ins a.Grammar dx [("_rules", .ref l), ("root", vc g.root)])) →
        sFld K (tVar 0) (tIf (tTest (tOp (fun x y H Q => y = V.non ∧ Q (V.bl (decide (x = V.non))) H) (tVar 2) (tC V.non))) (tOp (rIxT K) (tOp (rIxL K) (tVar 1) (tC (V.int 0))) (tC (V.int 0))) (tVar 2)) "root" { nx := Q2, rt := Q } σ H4 := by
      intro Q2 σ s0 s1 s2 q
      have fin : ∃ a_1 C dx fs, V.ref p = .ref a_1 ∧ H4 a_1 = some (.ins C dx fs) ∧ Cls K C ∧ NoAttr K C "root" ∧ fs.length < 1000 ∧ Q2 σ (upd H4 a_1 (.ins C dx (putF "root" (vc g.root) fs))) := by
        refine ⟨p, _, dx, _, rfl, hp4, T.k_Grammar, T.na_Grammar_root, (by show 1 < 1000; decide), ?_⟩
        rw [putF_ne (by decide), putF_nil]
        exact q
      rcases hrt with ⟨rfl, hr0⟩ | rfl
      · refine ⟨_, s2, rfl, _, rfl, ?_⟩
        rw [decide_eq_true rfl]
        refine iteT ?_
        obtain ⟨r, hr', he⟩ : ∃ r, g.rules[0]? = some r ∧ r.1 = g.root := by
          cases e : g.rules[0]? with
          | none => rw [e] at hr0; cases hr0
          | some r => rw [e] at hr0; exact ⟨r, rfl, Option.some.inj hr0⟩
        obtain ⟨t, ht, u, w1, w2, rfl, hu, h5, h6⟩ := hal.get' hr'
        rw [show w1 = _ from h5, show w2 = _ from h6, he] at hu
        exact ⟨_, s1, la, _, 0, _, rfl, rfl, SqL.of hla4, at_of (j := 0) (v := .ref u) rfl ht, u, _, 0, _, rfl, rfl, SqT.of (e4.sm _ _ hu), rfl, _, s0, fin⟩
      · refine ⟨_, s2, rfl, _, rfl, ?_⟩
        rw [decide_eq_false (by simp)]
        exact iteF ⟨_, s2, _, s0, fin⟩
    refine setroot _ _ rfl rfl rfl ?_
    have hlp : l ≠ p := fun e => by subst e; rw [hlF] at f4; cases f4
    have e5 := e4.set hp f4 (o := .ins a.Grammar dx [("_rules", .ref l), ("root", vc g.root)])
    have hp5 : (upd H4 p (.ins a.Grammar dx [("_rules", .ref l), ("root", vc g.root)])) p = some (.ins a.Grammar dx [("_rules", .ref l), ("root", vc g.root)]) := upd_same
    generalize upd H4 p (.ins a.Grammar dx [("_rules", .ref l), ("root", vc g.root)]) = H5 at e5 hp5 ⊢
    clear setroot hp4
    -- if self.root not in [name for name, body in rules]
    refine ⟨_, rfl, p, _, dx, _, _, rfl, hp5, T.k_Grammar, T.na_Grammar_root, (by repeat (first | exact look_eq | exact look_nil | rw [look_ne (by decide)])), _, rfl, la, rfl, ⟨_, SqL.of (e5.hh _ _ hla)⟩, fun D1 hD1 => ?_⟩
    refine lcmap (walk_list (K := K) (a := la) (xs := rvs)) (r := rC) g.rules (fun r => r.1) hD1 e5.fh hrlen (by rw [sl64]; omega) (fun F6 H6 e6 => SqL.of (e6.hh _ _ (e5.hh _ _ hla))) (fun i r v F6 H6 H7 hr' e6 hy Qy q => ?_) (fun ws F6 H6 e6 fD6 al6 => ?_)
    · obtain ⟨rfl, hy⟩ := hy
      obtain ⟨r2, t, hr2, rfl, ht⟩ := rule_at hal hy
      rw [hr'] at hr2
      obtain rfl := Option.some.inj hr2
      exact ⟨t, _, rfl, SqT.of ((e5.trans e6).sm _ _ ht), rfl, _, _, rfl, _, _, rfl, rfl, rfl, _, rfl, q _ F6 H7 (Ext.refl e6.fh) rfl⟩
    have hws : ws = (g.rules.map (·.1)).map vc := al6.cs
    refine ⟨D1, _, rfl, .inl (SqL.of (e6.fh _ _ fD6)), rfl, by rw [hws]; exact (inV_cs g.root _).1, _, rfl, ?_⟩
    rw [hws, (inV_cs g.root _).2, decide_eq_true hok.here]
    refine iteF ?_
    have e6' := e5.trans e6
    have hp6 := e6.hh _ _ hp5
    have f6 : F6 p = none := e6.nf p (by rw [hp5]; simp) f4
    have hl6 := e6.ff _ _ hlF
    clear hp5 e6 e5 fD6 al6 hD1
    -- lengths = least_lengths(self._rules)
    refine ⟨_, rfl, p, _, dx, _, _, rfl, hp6, T.k_Grammar, T.na_Grammar__rules, (by repeat (first | exact look_eq | exact look_nil | rw [look_ne (by decide)])), F6, _, g.rules, rfl, e6'.fh, ⟨l, rvs, rfl, hl6, hal.mono e6'.ff⟩, hok.rok, fun v F7 H7 e7 hv => ?_⟩
    obtain ⟨dl, lkv, rfl, hdl, adl⟩ := hv
    have e7' := e6'.trans e7
    have hp7 := e7.hh _ _ hp6
    have f7 : F7 p = none := e7.nf p (by rw [hp6]; simp) f6
    have hl7 := e7.ff _ _ hl6
    clear e6' hp6 f6 hl6 e7
    have hlget : ∀ c, (aGet g.lens c).isSome = true → valV lkv (encN c) = some (vn ((aGet g.lens c).getD 0)) := fun c hc => by
      rcases AD.get encN_inj c adl with ⟨h1, h2⟩ | ⟨x, v, h1, h2, h3⟩
      · rw [show aGet g.lens c = none from h1] at hc; cases hc
      · rw [h2, show aGet g.lens c = some x from h1, show v = .int (x : Int) from h3]; rfl
    -- if self.root not in lengths
    refine ⟨_, rfl, p, _, dx, _, _, rfl, hp7, T.k_Grammar, T.na_Grammar_root, (by repeat (first | exact look_eq | exact look_nil | rw [look_ne (by decide)])), _, rfl, dl, _, rfl, SF.DGet.some (k := encN g.root) (e7'.fh _ _ hdl) (hlget _ hok.ends), _, rfl, iteF ?_⟩
    -- self._useful = useful_numbers(self._rules, self.root, lengths)
    refine ⟨_, rfl, p, _, dx, _, _, rfl, hp7, T.k_Grammar, T.na_Grammar__rules, (by repeat (first | exact look_eq | exact look_nil | rw [look_ne (by decide)])), _, rfl, p, _, dx, _, _, rfl, hp7, T.k_Grammar, T.na_Grammar_root, (by repeat (first | exact look_eq | exact look_nil | rw [look_ne (by decide)])), _, rfl, F7, _, _, _, g.rules, g.root, g.lens, rfl, e7'.fh, ⟨l, rvs, rfl, hl7, hal.mono e7'.ff⟩, rfl, ⟨dl, lkv, rfl, hdl, adl⟩, ⟨hok.rok, ?_, n16⟩, fun v F8 H8 e8 hv => ?_⟩
    · obtain ⟨r, hr1, hr2⟩ := List.mem_map.mp hok.here
      rw [← hr2]
      exact (hok.rok r hr1).1
    obtain ⟨ua, uvs, rfl, hua, ual⟩ := hv
    have huv : uvs = g.useful.map vn := by rw [ual.nats, List.map_map]; rfl
    have e8' := e7'.trans e8
    have hp8 := e8.hh _ _ hp7
    have f8 : F8 p = none := e8.nf p (by rw [hp7]; simp) f7
    have hl8 := e8.ff _ _ hl7
    have hdl8 := e8.ff _ _ hdl
    refine ⟨_, rfl, p, _, dx, _, rfl, hp8, T.k_Grammar, T.na_Grammar__useful, (by show 2 < 1000; decide), ?_⟩
    rw [putF_ne (by decide), putF_ne (by decide), putF_nil]
    have e9 := e8'.set hp f8 (o := .ins a.Grammar dx [("_rules", .ref l), ("root", vc g.root), ("_useful", .ref ua)])
    have hp9 : (upd H8 p (.ins a.Grammar dx [("_rules", .ref l), ("root", vc g.root), ("_useful", .ref ua)])) p = some (.ins a.Grammar dx [("_rules", .ref l), ("root", vc g.root), ("_useful", .ref ua)]) := upd_same
    generalize upd H8 p (.ins a.Grammar dx [("_rules", .ref l), ("root", vc g.root), ("_useful", .ref ua)]) = H9 at e9 hp9 ⊢
    have adl8 := adl.mono e8.ff
    clear e8' hp8 e7' hp7 f7 hl7 hdl e8
    have hulen : g.useful.length ≤ 16 := Nat.le_trans useful_len n16
    have hatr : ∀ n ∈ g.useful, ∃ r u, g.rules[n]? = some r ∧ rvs[n]? = some (.ref u) ∧ F u = some (.tup [.str (S [r.1]), .str (S r.2)]) ∧ RuOk g.lens r := fun n hn => by
      obtain ⟨r, h1, h2⟩ := hok.rule hn
      obtain ⟨t, ht, u, w1, w2, rfl, hu, h5, h6⟩ := hal.get' h1
      rw [show w1 = _ from h5, show w2 = _ from h6] at hu
      exact ⟨r, u, h1, ht, hu, h2⟩
    -- longest
    refine ⟨_, rfl, p, _, dx, _, _, rfl, hp9, T.k_Grammar, T.na_Grammar__useful, (by repeat (first | exact look_eq | exact look_nil | rw [look_ne (by decide)])), ua, rfl, ⟨_, SqL.of (e9.fh _ _ hua)⟩, fun D1 hD1 => ?_⟩
    refine lcmap (walk_list (K := K) (a := ua) (xs := uvs)) (r := rNat) g.useful (fun n => (g.rules[n]?.map fun r => (aGet g.lens r.1).getD 0).getD 0) hD1 e9.fh (by rw [huv, List.length_map]) (by rw [sl64]; omega) (fun F6 H6 e6 => SqL.of (e6.sm _ _ hua)) (fun i n v F6 H6 H7 hn' e6 hy Qy q => ?_) (fun ws F10 H10 e10 fD al10 => ?_)
    · obtain ⟨rfl, hy⟩ := hy
      rw [huv] at hy
      obtain ⟨n2, hn2, rfl⟩ := map_get hy
      rw [hn'] at hn2
      obtain rfl := Option.some.inj hn2
      obtain ⟨r, u, h1, h2, h3, h4⟩ := hatr n (List.mem_of_getElem? hn')
      refine ⟨rfl, _, rfl, _, rfl, p, _, dx, _, _, rfl, e6.hh _ _ hp9, T.k_Grammar, T.na_Grammar__rules, (by repeat (first | exact look_eq | exact look_nil | rw [look_ne (by decide)])), _, rfl, l, _, _, _, rfl, rfl, SqL.of (e6.sm _ _ hl8), at_of (j := n) (v := .ref u) rfl h2, u, _, 0, _, rfl, rfl, SqT.of ((e9.trans e6).sm _ _ h3), rfl, dl, _, rfl, SF.DGet.some (k := encN r.1) (e6.sm _ _ hdl8) (hlget _ h4.here), ?_⟩
      refine q _ F6 H7 (Ext.refl e6.fh) ?_
      rw [h1]
      rfl
    have hws : ws = ((g.useful.map fun n => (g.rules[n]?.map fun r => (aGet g.lens r.1).getD 0).getD 0).map fun (x : Nat) => (x : Int)).map V.int := al10.nats
    refine ⟨D1, _, rfl, SqL.of (by rw [e10.fh _ _ fD, hws]), ?_, fun m hm _ => ?_⟩
    · rw [List.length_map, List.length_map]
      exact List.length_pos_iff.mpr hok.some_
    have hm24 : m ≤ 24 := by
      obtain ⟨x, hx, rfl⟩ := List.mem_map.mp hm
      obtain ⟨n, hn, rfl⟩ := List.mem_map.mp hx
      obtain ⟨r, u, h1, h2, h3, h4⟩ := hatr n hn
      rw [h1]
      have := h4.small
      show (((aGet g.lens r.1).getD 0 : Nat) : Int) ≤ 24
      omega
    have e10' := e9.trans e10
    have hp10 := e10.hh _ _ hp9
    have f10 : F10 p = none := e10.nf p (by rw [hp9]; simp) f8
    have hl10 := e10.ff _ _ hl8
    have hdl10 := e10.ff _ _ hdl8
    have hua10 := e10.ff _ _ hua
    clear e9 hp9 f8 hl8 hdl8 hD1 fD al10
    refine ⟨_, rfl, _, _, rfl, rfl, _, rfl, ?_⟩
    rw [decide_eq_false (show ¬ (24 : Int) < m by omega)]
    refine iteF ?_
    have hul10 : Al rNat F10 uvs g.useful := ual.mono e10.ff
    clear ual hua
    -- self._best
    refine ⟨_, rfl, p, _, dx, _, _, rfl, hp10, T.k_Grammar, T.na_Grammar__rules, (by repeat (first | exact look_eq | exact look_nil | rw [look_ne (by decide)])), _, rfl, p, _, dx, _, _, rfl, hp10, T.k_Grammar, T.na_Grammar__useful, (by repeat (first | exact look_eq | exact look_nil | rw [look_ne (by decide)])), _, rfl, F10, _, _, _, g.rules, g.useful, g.lens, rfl, e10'.fh, ⟨l, rvs, rfl, hl10, hal.mono e10'.ff⟩, ⟨ua, uvs, rfl, hua10, hul10⟩, ⟨dl, lkv, rfl, hdl10, adl8.mono e10.ff⟩, ⟨n16, hulen, fun n hn => hok.rule hn⟩, fun v F11 H11 e11 hv => ?_⟩
    obtain ⟨db, bkv, rfl, hdb, adb⟩ := hv
    have e11' := e10'.trans e11
    have hp11 := e11.hh _ _ hp10
    have f11 : F11 p = none := e11.nf p (by rw [hp10]; simp) f10
    have hl11 := e11.ff _ _ hl10
    have hdl11 := e11.ff _ _ hdl10
    have hua11 := e11.ff _ _ hua10
    have hul11 : Al rNat F11 uvs g.useful := hul10.mono e11.ff
    refine ⟨_, rfl, p, _, dx, _, rfl, hp11, T.k_Grammar, T.na_Grammar__best, (by show 3 < 1000; decide), ?_⟩
    rw [putF_ne (by decide), putF_ne (by decide), putF_ne (by decide), putF_nil]
    have e12 := e11'.set hp f11 (o := .ins a.Grammar dx [("_rules", .ref l), ("root", vc g.root), ("_useful", .ref ua), ("_best", .ref db)])
    have hp12 : (upd H11 p (.ins a.Grammar dx [("_rules", .ref l), ("root", vc g.root), ("_useful", .ref ua), ("_best", .ref db)])) p = some (.ins a.Grammar dx [("_rules", .ref l), ("root", vc g.root), ("_useful", .ref ua), ("_best", .ref db)]) := upd_same
    generalize upd H11 p (.ins a.Grammar dx [("_rules", .ref l), ("root", vc g.root), ("_useful", .ref ua), ("_best", .ref db)]) = H12 at e12 hp12 ⊢
    clear e11' hp11 e10' hp10 f10 hl10 hdl10 hua10 e11 hul10
    have bok := hok.bestOk
    have hdb12 := e12.fh _ _ hdb
    have hbp : db ≠ p := fun e => by subst e; rw [hdb12] at hp12; cases hp12
    -- most_steps
    refine ⟨db, _, hdb12, trivial, fun od => ?_⟩
    have hp12' : (upd H12 db (.frz od (.dK bkv))) p = some (.ins a.Grammar dx [("_rules", .ref l), ("root", vc g.root), ("_useful", .ref ua), ("_best", .ref db)]) := by rw [upd_ne hbp.symm]; exact hp12
    have sE : Same (fun _ => none) (upd H12 db (.frz od (.dK bkv))) := fun b o h => by cases h
    refine ⟨_, rfl, p, _, dx, _, _, rfl, hp12', T.k_Grammar, T.na_Grammar__best, (by repeat (first | exact look_eq | exact look_nil | rw [look_ne (by decide)])), db, od, rfl, .inl ⟨bkv, upd_same, fun D1 hD1 => ?_⟩⟩
    have hbget : ∀ q ∈ g.best, ∃ t z, valV bkv (encN q.1) = some (.ref t) ∧ F11 t = some (.tup [vn q.2.a, .str (S q.2.b), z]) := fun q hq => by
      have hq' : aGet g.best q.1 = some q.2 := aGet_of_mem bok.nd hq
      rcases AD.get encN_inj q.1 adb with ⟨h1, h2⟩ | ⟨x, v, h1, h2, t, w1, w2, w3, rfl, h3, h4, h5, _⟩
      · rw [show aGet g.best q.1 = none from h1] at hq'; cases hq'
      · rw [show aGet g.best q.1 = some x from h1] at hq'
        obtain rfl := Option.some.inj hq'
        rw [show w1 = _ from h4, show w2 = _ from h5] at h3
        exact ⟨t, w3, h2, h3⟩
    have hkey : ∀ (i : Nat) (q : Nat × Tri Nat (List Nat) Nat) k v, g.best[i]? = some q → bkv[i]? = some (k, v) → k = encN q.1 := fun i q k v h1 h2 => by
      have key : ∀ {kvs : List (Key × V)} {m : Best} (i : Nat), AD encN rBest F11 kvs m → m[i]? = some q → kvs[i]? = some (k, v) → k = encN q.1 := by
        intro kvs m i h
        induction h generalizing i with
        | nil => intro z; simp at z
        | cons h t ih =>
          cases i with
          | zero =>
            intro z1 z2
            simp at z1 z2
            subst z1
            have := h.1
            rw [z2] at this
            exact this
          | succ i => intro z1 z2; exact ih i (by simpa using z1) (by simpa using z2)
      exact key i adb h1 h2
    refine lcmap (walk_keys (d := db) (o := od) (kvs := bkv)) (r := rNat) g.best (fun q => q.2.a) hD1 sE adb.len (by have := bok.few; rw [sl64]; omega) (fun F6 H6 e6 => e6.hh _ _ upd_same) (fun i q v F6 H6 H7 hq e6 hy Qy qq => ?_) (fun ws F13 H13 e13 fD al13 => ?_)
    · obtain ⟨rfl, k1, v1, hk1, rfl⟩ := hy
      obtain rfl := hkey i q k1 v1 hq hk1
      obtain ⟨t, z, hv, ht⟩ := hbget q (List.mem_of_getElem? hq)
      have ht12 := e12.fh _ _ ht
      have htb : t ≠ db := fun e => by subst e; rw [ht12] at hdb12; cases hdb12
      refine ⟨rfl, _, rfl, p, _, dx, _, _, rfl, e6.hh _ _ hp12', T.k_Grammar, T.na_Grammar__best, (by repeat (first | exact look_eq | exact look_nil | rw [look_ne (by decide)])), _, rfl, db, _, rfl, .inl ⟨bkv, encN q.1, .inr ⟨od, e6.hh _ _ upd_same⟩, rfl, hv.symm⟩, t, _, 0, _, rfl, rfl, SqT.of (e6.hh _ _ (by rw [upd_ne htb]; exact ht12)), rfl, ?_⟩
      exact qq _ F6 H7 (Ext.refl e6.fh) rfl
    have hws : ws = ((g.best.map fun q => q.2.a).map fun (x : Nat) => (x : Int)).map V.int := al13.nats
    have hD13 : H13 D1 = some (.lst ws) := e13.fh _ _ fD
    have hdb13 : H13 db = some (.frz od (.dK bkv)) := e13.hh _ _ upd_same
    have hDb : D1 ≠ db := fun e => by subst e; rw [hD13] at hdb13; cases hdb13
    refine ⟨hdb13, D1, _, rfl, SqL.of (by rw [upd_ne hDb, hD13, hws]), ?_, fun m2 hm2 _ => ?_⟩
    · rw [List.length_map, List.length_map]
      exact List.length_pos_iff.mpr hok.bne
    have hm100 : m2 ≤ 100 := by
      obtain ⟨x, hx, rfl⟩ := List.mem_map.mp hm2
      obtain ⟨q, hq, rfl⟩ := List.mem_map.mp hx
      have := hok.fast q.1 q.2 (aGet_of_mem bok.nd hq)
      show ((q.2.a : Nat) : Int) ≤ 100
      omega
    have s14 : Same H12 (upd H13 db (.dK bkv)) := same_unlock e13.hh hdb12
    have e14 := Ext.all e12.fh s14
    have e14' := e12.trans e14
    have hp14 := e14.hh _ _ hp12
    have f14 := e14.nf p (by rw [hp12]; simp) f11
    have hl14 := e14.ff _ _ hl11
    have hdl14 := e14.ff _ _ hdl11
    have hua14 := e14.ff _ _ hua11
    have hul14 : Al rNat _ uvs g.useful := hul11.mono e14.ff
    have hdb14 := e14.ff _ _ hdb
    have adb14 := adb.mono e14.ff
    generalize allF F11 H12 (upd H13 db (.dK bkv)) = F14 at *
    generalize upd H13 db (HO.dK bkv) = H14 at *
    clear e12 e13 hp12 hp12' hdb12 hdb13 hD13 fD al13 sE s14 e14 hl11 hdl11 hua11 hul11 hdb f11 hD1
    refine ⟨_, rfl, _, _, rfl, rfl, _, rfl, ?_⟩
    rw [decide_eq_false (show ¬ (100 : Int) < m2 by omega)]
    refine iteF ?_
    -- pairs
    refine ⟨_, rfl, p, _, dx, _, _, rfl, hp14, T.k_Grammar, T.na_Grammar__rules, (by repeat (first | exact look_eq | exact look_nil | rw [look_ne (by decide)])), _, rfl, p, _, dx, _, _, rfl, hp14, T.k_Grammar, T.na_Grammar_root, (by repeat (first | exact look_eq | exact look_nil | rw [look_ne (by decide)])), _, _, rfl, rfl, ?_, _, _, rfl, rfl, ?_, (by show 2 ≤ sizeLine; rw [sl64]; omega), fun t0 ht0 => ⟨(by show 1 ≤ sizeLine; rw [sl64]; omega), fun l0 hl0 => ?_⟩⟩
    · rw [S_lt, S_len, S_len, sl64]; simp
    · rw [S_lt, S_gt, S_app, S_len, S_len, sl64]; simp
    rw [S_lt, S_gt, S_ltgt, S_app, S_app] at hl0 ⊢
    have e15 := (e14'.newF ht0 (o := .tup [.str (S [60, 62]), .str (S ([60] ++ [g.root] ++ [62]))])).newF hl0 (o := .lst [.ref t0])
    have E14_15 : Ext F14 H14 _ _ := ((Ext.refl e14'.fh).newF ht0 (o := .tup [.str (S [60, 62]), .str (S ([60] ++ [g.root] ++ [62]))])).newF hl0 (o := .lst [.ref t0])
    have hl15 := E14_15.fh _ _ (E14_15.ff _ _ hl14)
    refine ⟨l, l0, _, _, rfl, rfl, hl15, upd_same, by rw [hrlen, sl64]; show g.rules.length + 1 ≤ _; omega, fun pa hpa => ?_⟩
    have e16 := e15.newF hpa (o := .lst (rvs ++ [.ref t0]))
    have E14_16 := E14_15.newF hpa (o := .lst (rvs ++ [.ref t0]))
    have hpaF := upd_same (H := (upd (upd F14 t0 (HO.tup [V.str (S [60, 62]), V.str (S ([60] ++ [g.root] ++ [62]))])) l0 (HO.lst [V.ref t0]))) (a := pa) (o := .lst (rvs ++ [.ref t0]))
    have ht0F : (upd (upd (upd F14 t0 (HO.tup [V.str (S [60, 62]), V.str (S ([60] ++ [g.root] ++ [62]))])) l0 (HO.lst [V.ref t0])) pa (.lst (rvs ++ [.ref t0]))) t0 = some (HO.tup [V.str (S [60, 62]), V.str (S ([60] ++ [g.root] ++ [62]))]) := by
      have h1 : t0 ≠ l0 := fun e => by subst e; rw [upd_same] at hl0; cases hl0
      have h2 : t0 ≠ pa := fun e => by subst e; rw [upd_ne h1, upd_same] at hpa; cases hpa
      rw [upd_ne h2, upd_ne h1, upd_same]
    have hp16 := E14_16.hh _ _ hp14
    have f16 := E14_16.nf p (by rw [hp14]; simp) f14
    have hl16 := E14_16.ff _ _ hl14
    have hdl16 := E14_16.ff _ _ hdl14
    have hua16 := E14_16.ff _ _ hua14
    have hul16 : Al rNat _ uvs g.useful := hul14.mono E14_16.ff
    have hdb16 := E14_16.ff _ _ hdb14
    have adb16 := adb14.mono E14_16.ff
    clear E14_16 E14_15 e15 hl15 hp14 f14 hl14 hdl14 hua14 hul14 hdb14 adb14 e14'
    generalize upd (upd (upd F14 t0 (HO.tup [V.str (S [60, 62]), V.str (S ([60] ++ [g.root] ++ [62]))])) l0 (HO.lst [V.ref t0])) pa (.lst (rvs ++ [.ref t0])) = F16 at *
    generalize upd (upd (upd H14 t0 (HO.tup [V.str (S [60, 62]), V.str (S ([60] ++ [g.root] ++ [62]))])) l0 (HO.lst [V.ref t0])) pa (.lst (rvs ++ [.ref t0])) = H16 at *
    clear hl0 ht0 hpa
    have hpairs : rL (rP rS rS) F16 (.ref pa) g.pairs := ⟨pa, _, rfl, hpaF, (al_pairs (hal.mono e16.ff)).snoc ⟨t0, _, _, rfl, ht0F, rfl, rfl⟩⟩
    -- numbers
    refine ⟨_, rfl, p, _, dx, _, _, rfl, hp16, T.k_Grammar, T.na_Grammar__useful, (by repeat (first | exact look_eq | exact look_nil | rw [look_ne (by decide)])), _, rfl, p, _, dx, _, _, rfl, hp16, T.k_Grammar, T.na_Grammar__rules, (by repeat (first | exact look_eq | exact look_nil | rw [look_ne (by decide)])), l, _, rfl, .inl (SqL.of (e16.fh _ _ hl16)), (by show 1 ≤ sizeLine; rw [sl64]; omega), fun l1 hl1 => ?_⟩
    have e17 := e16.newF hl1 (o := .lst [.int (rvs.length : Nat)])
    refine ⟨ua, l1, _, _, rfl, rfl, e17.fh _ _ (same_newF e16.fh hl1 _ _ hua16), upd_same, by rw [huv, List.length_map, sl64]; show g.useful.length + 1 ≤ _; omega, fun na hna => ?_⟩
    have E16_18 : Ext F16 H16 _ _ := ((Ext.refl e16.fh).newF hl1 (o := .lst [.int (rvs.length : Nat)])).newF hna (o := .lst (uvs ++ [.int (rvs.length : Nat)]))
    have hnaF := upd_same (H := upd F16 l1 (.lst [.int (rvs.length : Nat)])) (a := na) (o := .lst (uvs ++ [.int (rvs.length : Nat)]))
    have e18 := e16.trans E16_18
    have hnums : rL rNat _ (.ref na) g.numbers := ⟨na, _, rfl, hnaF, (hul16.mono E16_18.ff).snoc (by show V.int _ = V.int _; rw [hrlen])⟩
    have hpairs18 := Mono.mono (r := rL (rP rS rS)) E16_18.ff hpairs
    have hp18 := E16_18.hh _ _ hp16
    have f18 := E16_18.nf p (by rw [hp16]; simp) f16
    have hl18 := E16_18.ff _ _ hl16
    have hdl18 := E16_18.ff _ _ hdl16
    have hua18 := E16_18.ff _ _ hua16
    have hul18 : Al rNat _ uvs g.useful := hul16.mono E16_18.ff
    have hdb18 := E16_18.ff _ _ hdb16
    have adb18 := adb16.mono E16_18.ff
    clear E16_18 e17 hp16 f16 hl16 hdl16 hua16 hul16 hdb16 adb16 e16 hpairs hpaF ht0F hnaF
    generalize upd (upd F16 l1 (.lst [.int (rvs.length : Nat)])) na (.lst (uvs ++ [.int (rvs.length : Nat)])) = F18 at *
    generalize upd (upd H16 l1 (.lst [.int (rvs.length : Nat)])) na (.lst (uvs ++ [.int (rvs.length : Nat)])) = H18 at *
    clear hl1 hna
    -- vanishing
    have hdbH := e18.fh _ _ hdb18
    have hbp : db ≠ p := fun e => by subst e; rw [hdbH] at hp18; cases hp18
    refine ⟨db, _, hdbH, trivial, fun od => ?_⟩
    have hp18' : (upd H18 db (.frz od (.dK bkv))) p = some (.ins a.Grammar dx [("_rules", .ref l), ("root", vc g.root), ("_useful", .ref ua), ("_best", .ref db)]) := by rw [upd_ne hbp.symm]; exact hp18
    have hdlb : dl ≠ db ∨ dl = db := (Decidable.em _).symm
    refine ⟨_, rfl, p, _, dx, _, _, rfl, hp18', T.k_Grammar, T.na_Grammar__best, (by repeat (first | exact look_eq | exact look_nil | rw [look_ne (by decide)])), db, od, rfl, .inl ⟨bkv, upd_same, fun D hD => ?_⟩⟩
    let vanU : Best → List (Nat × Bool) := fun bs => ((bs.map (·.1)).filter fun c => decide ((aGet g.lens c).getD 0 = 0)).map fun c => (c, true)
    refine dc_it (walk_keys (d := db) (o := od) (kvs := bkv)) (fun i H' => Same (upd H18 db (.frz od (.dK bkv))) H' ∧ ∃ kvs, H' D = some (.dK kvs) ∧ AD encN rB (fun _ => none) kvs (vanU (g.best.take i))) ?_ (fun i H' _ h => h.1 _ _ upd_same) (fun i x H3 H4 hi h hy => ?_) (fun H' h => ?_)
    · exact ⟨fun b o hb => by rw [upd_ne (ne_of_none hb hD)]; exact hb, [], upd_same, .nil⟩
    · obtain ⟨sm, kvs, hDk, adk⟩ := h
      obtain ⟨rfl, k1, v1, hk1, rfl⟩ := hy
      have hi2 : i < g.best.length := by rw [show g.best.length = bkv.length from adb18.len.symm]; exact hi
      have hq : g.best[i]? = some g.best[i] := List.getElem?_eq_getElem hi2
      generalize g.best[i] = q at hq
      obtain rfl := hkey i q k1 v1 hq hk1
      have hql : (aGet g.lens q.1).isSome = true := bok.hl q.1 (List.mem_map_of_mem (List.mem_of_getElem? hq))
      have hdl4 : Rd H4 dl (.dK lkv) := by
        rcases hdlb with h | h
        · exact .inl (sm _ _ (by rw [upd_ne h]; exact e18.fh _ _ hdl18))
        · subst h
          have : lkv = bkv := by
            have h1 := e18.fh _ _ hdl18
            rw [hdbH] at h1
            injection h1 with h1
            injection h1 with h1
            exact h1.symm
          subst this
          exact .inr ⟨od, sm _ _ upd_same⟩
      refine ⟨rfl, _, rfl, _, rfl, dl, _, rfl, .inl ⟨lkv, encN q.1, hdl4, rfl, (hlget _ hql).symm⟩, rfl, _, rfl, ?_⟩
      have htk : vanU (g.best.take (i + 1)) = vanU (g.best.take i) ++ (if (aGet g.lens q.1).getD 0 = 0 then [(q.1, true)] else []) := by
        show List.map _ (List.filter _ (List.map _ _)) = _
        rw [take_more hq, List.map_append, List.filter_append, List.map_append]
        congr 1
        by_cases h0 : (aGet g.lens q.1).getD 0 = 0
        · simp [h0]
        · simp [h0]
      rw [dec_ii]
      by_cases h0 : (aGet g.lens q.1).getD 0 = 0
      · rw [decide_eq_true (show (((aGet g.lens q.1).getD 0 : Nat) : Int) = 0 by omega)]
        refine iteT ⟨_, rfl, kvs, encN q.1, rfl, hDk, ?_, fun b o hb => ?_, _, upd_same, ?_⟩
        · rw [adk.len]
          show (List.map _ (List.filter _ (List.map _ _))).length < _
          have h1 := List.length_filter_le (fun c => decide ((aGet g.lens c).getD 0 = 0)) ((g.best.take i).map (·.1))
          rw [List.length_map, List.length_take] at h1
          rw [List.length_map, sl64]
          have := bok.few
          omega
        · rw [upd_ne (ne_of_none hb hD)]; exact sm _ _ hb
        · rw [htk, if_pos h0]
          have hnew : aGet (vanU (g.best.take i)) q.1 = none := by
            refine aGet_none.mpr fun hm => ?_
            obtain ⟨x, hx, he⟩ := List.mem_map.mp hm
            obtain ⟨c, hc, rfl⟩ := List.mem_map.mp hx
            have hc2 := (List.mem_filter.mp hc).1
            rw [List.map_take] at hc2
            have := nodup_take bok.nd (i := i) (x := q.1) (by rw [List.getElem?_map, hq]; rfl)
            exact this (he ▸ hc2)
          rw [← aPut_new hnew]
          exact adk.put encN_inj (r := rB) rfl
      · rw [decide_eq_false (show ¬ (((aGet g.lens q.1).getD 0 : Nat) : Int) = 0 by omega)]
        refine iteF ⟨sm, kvs, hDk, ?_⟩
        rw [htk, if_neg h0, List.append_nil]
        exact adk
    obtain ⟨sm, kvs, hDk, adk⟩ := h
    rw [show bkv.length = g.best.length from adb18.len, List.take_length] at adk
    have hdbH' : H' db = some (.frz od (.dK bkv)) := sm _ _ upd_same
    have hDb : D ≠ db := fun e => by subst e; rw [hDk] at hdbH'; cases hdbH'
    have hDn : H18 D = none := by rw [upd_ne hDb] at hD; exact hD
    refine ⟨hdbH', ?_⟩
    have e19 := Ext.all e18.fh (same_unlock sm hdbH)
    have hvan : rD encN rB (allF F18 H18 (upd H' db (.dK bkv))) (.ref D) g.van := ⟨D, kvs, rfl, (allF_new hDn).trans (by rw [upd_ne hDb]; exact hDk), adk.mono (fun b o h => by cases h)⟩
    have e20 := e18.trans e19
    have hp20 := e19.hh _ _ hp18
    have f20 := e19.nf p (by rw [hp18]; simp) f18
    have hl20 := e19.ff _ _ hl18
    have hua20 := e19.ff _ _ hua18
    have hul20 : Al rNat _ uvs g.useful := hul18.mono e19.ff
    have hdb20 := e19.ff _ _ hdb18
    have adb20 := adb18.mono e19.ff
    have hpairs20 := Mono.mono (r := rL (rP rS rS)) e19.ff hpairs18
    have hnums20 := Mono.mono (r := rL rNat) e19.ff hnums
    clear e19 hp18 f18 hl18 hdl18 hua18 hul18 hdb18 adb18 hpairs18 hnums hdbH' hdbH hDk adk sm hp18' hD e18 hDn
    generalize allF F18 H18 (upd H' db (.dK bkv)) = F20 at *
    generalize upd H' db (.dK bkv) = H20 at *
    have hbnd : ∀ n ∈ g.numbers, n < g.pairs.length := fun n hn => by
      unfold Gram.numbers at hn
      unfold Gram.pairs
      rw [List.length_append, List.length_map]
      rcases List.mem_append.mp hn with h | h
      · obtain ⟨r, h1, _⟩ := hok.rule h
        have := (List.getElem?_eq_some_iff.mp h1).1
        show n < g.rules.length + 1
        omega
      · simp at h
        subst h
        exact Nat.lt_succ_self _
    have hnlen : g.numbers.length ≤ 1000 := by
      unfold Gram.numbers
      rw [List.length_append]
      show g.useful.length + 1 ≤ 1000
      omega
    -- self.forward
    refine ⟨_, rfl, _, rfl, _, rfl, fun x xd hx hxd hne => ?_⟩
    have e21 := e20.newM hxd (o := .own x)
    refine ⟨F20, upd H20 xd (.own x), x, xd, pa, na, D, g.pairs, g.numbers, g.van, rfl, by rw [upd_ne (fun e => hne e.symm)]; exact hx, rfl, e21.fh, hpairs20, hnums20, hvan, hbnd, hnlen, fun F22 H22 e22 htab => ⟨rfl, ?_⟩⟩
    have e22' := e21.trans e22
    have ex : Ext F20 H20 F22 H22 := ((Ext.refl e20.fh).newM hxd (o := .own x)).trans e22
    have hp22 := ex.hh _ _ hp20
    have f22 := ex.nf p (by rw [hp20]; simp) f20
    have hl22 := ex.ff _ _ hl20
    have hua22 := ex.ff _ _ hua20
    have hul22 : Al rNat _ uvs g.useful := hul20.mono ex.ff
    have hdb22 := ex.ff _ _ hdb20
    have adb22 := adb20.mono ex.ff
    have hpairs22 := Mono.mono (r := rL (rP rS rS)) ex.ff hpairs20
    have hnums22 := Mono.mono (r := rL rNat) ex.ff hnums20
    have hvan22 := Mono.mono (r := rD encN rB) ex.ff hvan
    clear ex e22 e21 hp20 f20 hl20 hua20 hul20 hdb20 adb20 hpairs20 hnums20 hvan e20 hx hxd
    refine ⟨_, rfl, p, _, dx, _, rfl, hp22, T.k_Grammar, T.na_Grammar_forward, (by show 4 < 1000; decide), ?_⟩
    rw [putF_ne (by decide), putF_ne (by decide), putF_ne (by decide), putF_ne (by decide), putF_nil]
    have e23 := e22'.set hp f22 (o := .ins a.Grammar dx [("_rules", .ref l), ("root", vc g.root), ("_useful", .ref ua), ("_best", .ref db), ("forward", .ref x)])
    have hp23 : (upd H22 p (.ins a.Grammar dx [("_rules", .ref l), ("root", vc g.root), ("_useful", .ref ua), ("_best", .ref db), ("forward", .ref x)])) p = some (.ins a.Grammar dx [("_rules", .ref l), ("root", vc g.root), ("_useful", .ref ua), ("_best", .ref db), ("forward", .ref x)]) := upd_same
    generalize upd H22 p (.ins a.Grammar dx [("_rules", .ref l), ("root", vc g.root), ("_useful", .ref ua), ("_best", .ref db), ("forward", .ref x)]) = H23 at e23 hp23 ⊢
    clear e22' hp22
    -- self.backward
    obtain ⟨_, pvs, epa, hpa, pal⟩ := id hpairs22
    cases epa
    have hplen : g.pairs.length ≤ 17 := by
      unfold Gram.pairs
      rw [List.length_append, List.length_map]
      show g.rules.length + 1 ≤ 17
      omega
    refine ⟨_, rfl, pa, rfl, ⟨_, SqL.of (e23.fh _ _ hpa)⟩, fun D2 hD2 => ?_⟩
    refine lcmap (walk_list (K := K) (a := pa) (xs := pvs)) (r := rP rS rS) g.pairs (fun q => (q.1, q.2.reverse)) hD2 e23.fh pal.len (by rw [sl64]; omega) (fun F6 H6 e6 => SqL.of (e6.sm _ _ hpa)) (fun i q v F6 H6 H7 hq e6 hy Qy qq => ?_) (fun ws F24 H24 e24 fD al24 => ?_)
    · obtain ⟨rfl, hy⟩ := hy
      obtain ⟨q2, hq2, t, u1, u2, rfl, ht, h5, h6⟩ := pal.get hy
      rw [hq] at hq2
      obtain rfl := Option.some.inj hq2
      rw [show u1 = _ from h5, show u2 = _ from h6] at ht
      have hql : q.2.length ≤ 4 := by
        have := List.mem_of_getElem? hq
        unfold Gram.pairs at this
        rcases List.mem_append.mp this with h | h
        · obtain ⟨r, hr, rfl⟩ := List.mem_map.mp h
          exact (hok.rok r hr).2.1
        · simp at h
          subst h
          simp
      refine ⟨t, _, rfl, SqT.of (e6.sm _ _ ht), rfl, _, _, rfl, _, _, rfl, rfl, rfl, _, rfl, _, rfl, q.2, rfl, by rw [sl64]; omega, (by show 2 ≤ sizeLine; rw [sl64]; omega), fun t2 ht2 => ?_⟩
      exact qq _ _ _ ((Ext.refl e6.fh).newF ht2) ⟨t2, _, _, rfl, upd_same, rfl, rfl⟩
    refine ⟨_, rfl, _, rfl, fun x2 xd2 hx2 hxd2 hne2 => ?_⟩
    have e24' := e23.trans e24
    have e25 := e24'.newM hxd2 (o := .own x2)
    refine ⟨F24, upd H24 xd2 (.own x2), x2, xd2, D2, na, D, g.pairs.map fun q => (q.1, q.2.reverse), g.numbers, g.van, rfl, by rw [upd_ne (fun e => hne2 e.symm)]; exact hx2, rfl, e25.fh, ⟨D2, ws, rfl, fD, al24⟩, Mono.mono (r := rL rNat) e24.ff hnums22, Mono.mono (r := rD encN rB) e24.ff hvan22, fun n hn => by rw [List.length_map]; exact hbnd n hn, hnlen, fun F26 H26 e26 htab2 => ⟨rfl, ?_⟩⟩
    have ex : Ext F22 H23 F26 H26 := (e24.newM hxd2 (o := .own x2)).trans e26
    have hp26 := ex.hh _ _ hp23
    have f26 := ex.nf p (by rw [hp23]; simp) f22
    refine ⟨_, rfl, p, _, dx, _, rfl, hp26, T.k_Grammar, T.na_Grammar_backward, (by show 5 < 1000; decide), ?_⟩
    rw [putF_ne (by decide), putF_ne (by decide), putF_ne (by decide), putF_ne (by decide), putF_ne (by decide), putF_nil]
    have e27 := (e23.trans ex).set hp f26 (o := .ins a.Grammar dx (gfs (.ref l) g.root (.ref ua) (.ref db) (.ref x) (.ref x2)))
    have e28 := e27.frz hp upd_same f26
    have sm28 : Same F26 (upd F26 p (.ins a.Grammar dx (gfs (.ref l) g.root (.ref ua) (.ref db) (.ref x) (.ref x2)))) := fun b o hb => by rw [upd_ne (ne_of_none hb f26)]; exact hb
    have sm22 := ex.ff
    refine k _ _ e28 ⟨p, dx, .ref l, .ref ua, .ref db, .ref x, .ref x2, rfl, upd_same, Mono.mono sm28 ⟨l, rvs, rfl, sm22 _ _ hl22, hal.mono (e23.trans ex).ff⟩, Mono.mono sm28 ⟨ua, uvs, rfl, sm22 _ _ hua22, hul22.mono sm22⟩, Mono.mono sm28 ⟨db, bkv, rfl, sm22 _ _ hdb22, adb22.mono sm22⟩, Mono.mono sm28 (Mono.mono sm22 htab), Mono.mono sm28 htab2⟩
end
end SF
namespace SF
open PySem PySem.Spec PyProof.Rows L2
def sp_rules (G C : Addr) : Sp := fun vs H Q _ => ∃ (F : Hp) (v : V) (g : Gram), vs = [v] ∧ Same F H ∧ rGram G C F v g ∧ ∀ l rvs, H l = none → Al rRule F rvs g.rules → Q (.ref l) (upd H l (.lst rvs))
def sp_cell (K : PySem.W.Frag) : Sp := fun vs H Q _ => ∃ (a : Addr) (ns : List Int) (k : Nat), vs = [.ref a, .int k] ∧ SqL K H a (ns.map V.int) ∧ Q (.int (ns[k]?.getD 0)) H
def sp_draws : Sp := fun vs H Q _ => ∃ (F : Hp) (c : Int) (n : Nat), vs = [.int c, .int n] ∧ n ≤ 1000 ∧ Same F H ∧ ∀ v F' H', Ext F H F' H' → rL rNat F' v (draws c n) → Q v H'
section
variable {P : Program} {w : World} {K : PySem.W.Frag} {mg : Str → Option Value} {base : Heap} {a : Ad}
theorem ok_rules (T : Txt K mg a) : FnOk P w K mg base CX0 1 a.Grammar_rules a.d_Grammar_rules ["self"] (sp_rules a.Grammar a.Table) := by
  refine T.f_Grammar_rules.ok sc_Grammar_rules (fun vs H Q E h => ?_) (fun cdv A outer s H vs Q E hr h => ?_)
  · obtain ⟨F, v, g, rfl, _⟩ := h; rfl
  · obtain ⟨F, v, g, rfl, sF, ⟨p, dx, u0, u2, u3, u4, u5, rfl, hp, ⟨la, rvs, rfl, hla, hal⟩, _⟩, k⟩ := h
    refine ⟨_, (pss_one (ps_ret (pe_callTy (call_listK (K := K)) (by rfl) T.z_list (by decide +kernel) (pa_cons (pe_fldK (K := K) (pv 0)) pa_nil)))), ?_⟩
    exact ⟨_, rfl, p, _, dx, _, _, rfl, sF _ _ hp, T.k_Grammar, T.na_Grammar__rules, look_eq, la, rvs, rfl, .inl (SqL.of (sF _ _ hla)), fun l hl => k l rvs hl hal⟩
theorem ok_cell (T : Txt K mg a) : FnOk P w K mg base CX0 1 a._law_cell a.d__law_cell ["_law_script", "_law_k"] (sp_cell K) := by
  refine T.f__law_cell.ok sc__law_cell (fun vs H Q E h => ?_) (fun cdv A outer s H vs Q E hr h => ?_)
  · obtain ⟨q, ns, k, rfl, _⟩ := h; rfl
  · obtain ⟨q, ns, k, rfl, hq, hk⟩ := h
    refine ⟨_, (pss_cons (ps_if (pt_cmpR op_lt (pv 1) (pe_callB (call_lenK (K := K)) (by rfl) T.z_len PySem.boot_len (pa_cons (pv 0) pa_nil)) (nomark _))
    (pss_one (ps_ret (pe_ix (ix_listK (K := K)) (pv 0) (pv 1) (fun _ _ => rfl))))
    pss_nil)
  (pss_one (ps_ret pe_int))), ?_⟩
    refine ⟨_, rfl, _, rfl, q, _, rfl, .inl hq, _, _, rfl, rfl, _, rfl, ?_⟩
    rw [List.length_map]
    by_cases hlt : k < ns.length
    · rw [decide_eq_true (show ((k : Nat) : Int) < ((ns.length : Nat) : Int) by omega)]
      refine iteT ⟨_, rfl, _, rfl, q, _, _, .int ns[k], rfl, rfl, hq, at_of (j := k) rfl (by rw [List.getElem?_map, List.getElem?_eq_getElem hlt]; rfl), ?_⟩
      rw [List.getElem?_eq_getElem hlt] at hk
      exact hk
    · rw [decide_eq_false (show ¬ ((k : Nat) : Int) < ((ns.length : Nat) : Int) by omega)]
      refine iteF ?_
      rw [List.getElem?_eq_none (by omega)] at hk
      exact hk
theorem ok_draws (T : Txt K mg a) : FnOk P w K mg base CX0 1 a._law_draws a.d__law_draws ["_law_cell_here", "_law_many"] sp_draws := by
  refine T.f__law_draws.ok sc__law_draws (fun vs H Q E h => ?_) (fun cdv A outer s H vs Q E hr h => ?_)
  · obtain ⟨F, c, n, rfl, _⟩ := h; rfl
  · obtain ⟨F, c, n, rfl, hn, sF, k⟩ := h
    refine ⟨_, (pss_cons (ps_set (i := 2) sc__law_draws.nd rfl (Or.inl rfl) (pe_lst pa_nil))
  (pss_cons (ps_set (i := 3) sc__law_draws.nd rfl (Or.inl rfl) (pe_op op_sub (pv 0) (pe_op op_pow pe_int pe_int)))
  (pss_cons (ps_set (i := 4) sc__law_draws.nd rfl (Or.inl rfl) (pe_op op_mod (pe_callTy call_int1 (by rfl) T.z_int (by decide +kernel) (pa_cons (pv 0) pa_nil)) pe_int))
  (pss_cons (ps_for PassesOwn.never rfl (pi_range1 (by rfl) T.z_range (pa_cons (pv 1) pa_nil)) (pg_name (i := 5) sc__law_draws.nd rfl (Or.inl rfl))
    (pss_cons (ps_set (i := 4) sc__law_draws.nd rfl (Or.inl rfl) (pe_op op_mod (pe_callTy call_int1 (by rfl) T.z_int (by decide +kernel) (pa_cons (pe_op op_add (pe_op op_add (pe_op op_mul (pv 4) pe_int) pe_int) (pv 5)) pa_nil)) pe_int))
  (pss_one (ps_if (pt_cmpR op_gt (pv 3) pe_int (nomark _))
    (pss_cons (ps_expr (pe_bmK (K := K) PySem.F.plainAttrs_list PySem.F.slot_list_append PySem.F.type_list_append mt_append (pv 2) (pa_cons (pe_op op_mod (pe_callTy call_int1 (by rfl) T.z_int (by decide +kernel) (pa_cons (pv 3) pa_nil)) pe_int) pa_nil)))
  (pss_one (ps_set (i := 3) sc__law_draws.nd rfl (Or.inl rfl) (pe_op op_fdiv (pv 3) pe_int))))
    (pss_one (ps_expr (pe_bmK (K := K) PySem.F.plainAttrs_list PySem.F.slot_list_append PySem.F.type_list_append mt_append (pv 2) (pa_cons (pe_op op_mod (pe_op op_fdiv (pv 4) pe_int) pe_int) pa_nil))))))))
  (pss_one (ps_ret (pv 2))))))), ?_⟩
    refine ⟨by rw [sl64]; simp, fun l hl => ?_⟩
    refine ⟨_, rfl, _, _, rfl, rfl, ⟨by decide, by decide, by decide⟩, _, _, rfl, rfl, ?_⟩
    refine ⟨_, rfl, .inl ⟨_, rfl, _, _, rfl, rfl, (by show (0 : Int) < 10007; decide), ?_⟩⟩
    have hm0 : c % 10007 = (((c % 10007).toNat : Nat) : Int) := by omega
    refine ⟨_, rfl, _, rfl, by omega, by omega, ?_⟩
    rw [Int.toNat_natCast]
    refine for_range (lo := 0) (n := n) (fun i σ H' => ∃ x5 : Option V, σ = [some (.int c), some (.int (n : Nat)), some (.ref l), some (.int (lawSt c i).2.1), some (vn (lawSt c i).2.2), x5] ∧ Ext F H F H' ∧ H' l = some (.lst ((lawSt c i).1.map vn))) ⟨none, ?_, (Ext.refl sF).newM hl, upd_same⟩ ?_ ?_
    · dsimp only
      rw [hm0]
      rfl
    · rintro i σ H1 hi ⟨x5, rfl, e1, hl1⟩
      have hmx := lawSt_mixed c i
      have hlen := draws_len c i
      unfold draws at hlen
      rw [lawSt_succ]
      generalize lawSt c i = st at hl1 hmx hlen ⊢
      obtain ⟨row, rest, mixed⟩ := st
      have fl : F l = none := sF.free hl
      refine ⟨_, rfl, _, _, rfl, rfl, .inr ⟨by decide, by decide⟩, _, _, rfl, rfl, _, rfl, _, _, rfl, rfl, .inl ⟨_, rfl, _, _, rfl, rfl, (by show (0 : Int) < 10007; decide), ?_⟩⟩
      dsimp only
      have hmm : ((mixed : Nat) : Int) * 137 + 71 + (0 + ((i : Nat) : Int)) = (((mixed * 137 + 71 + i : Nat)) : Int) := by omega
      rw [hmm]
      have hmm2 : (((mixed * 137 + 71 + i : Nat)) : Int) % 10007 = ((((mixed * 137 + 71 + i) % 10007 : Nat)) : Int) := by omega
      rw [hmm2]
      refine ⟨_, rfl, _, _, rfl, rfl, _, rfl, ?_⟩
      unfold lawStep
      dsimp only
      by_cases hr0 : 0 < rest
      · rw [decide_eq_true hr0, if_pos hr0]
        refine iteT ⟨_, rfl, .inl ⟨rfl, _, SqL.of hl1⟩, _, rfl, .inl ⟨_, rfl, _, _, rfl, rfl, (by show (0 : Int) < 100; decide), l, _, _, rfl, rfl, hl1, by rw [List.length_map, sl64]; show row.length < _; have : row.length = i := hlen; omega, ?_⟩⟩
        refine ⟨_, rfl, _, _, rfl, rfl, ⟨by decide, by decide⟩, _, rfl, e1.set hl fl, ?_⟩
        rw [upd_same, List.map_append]
        have : (((rest % 100).toNat : Nat) : Int) = rest % 100 := by omega
        show _ = some (HO.lst (row.map vn ++ [V.int _]))
        rw [this]
      · rw [decide_eq_false hr0, if_neg hr0]
        refine iteF ⟨_, rfl, .inl ⟨rfl, _, SqL.of hl1⟩, _, rfl, _, _, rfl, rfl, ⟨by decide, by decide⟩, _, _, rfl, rfl, (by show (0 : Int) < 100; decide), l, _, _, rfl, rfl, hl1, by rw [List.length_map, sl64]; show row.length < _; have : row.length = i := hlen; omega, ?_⟩
        refine ⟨_, rfl, e1.set hl fl, ?_⟩
        rw [upd_same, List.map_append]
        have : ((((mixed * 137 + 71 + i) % 10007 / 7 % 100 : Nat)) : Int) = (((mixed * 137 + 71 + i) % 10007 : Nat) : Int) / 7 % 100 := by omega
        show _ = some (HO.lst (row.map vn ++ [V.int _]))
        rw [this]
    · rintro σ H6 ⟨x5, rfl, e6, hl6⟩
      have fl : F l = none := sF.free hl
      refine ⟨_, rfl, k _ _ H6 (e6.frz hl hl6 fl) ⟨l, _, rfl, upd_same, ?_⟩⟩
      exact al_nats _
def sp_names : Sp := fun vs H Q _ => ∃ (F : Hp) (v : V) (d : List Nat), vs = [v] ∧ Same F H ∧ rL rNat F v d ∧ 42 ≤ d.length ∧ (∀ x ∈ d, x < 100) ∧ ∀ v F' H', Ext F H F' H' → rL rC F' v (lawNames d) → Q v H'
def sp_signs : Sp := fun vs H Q _ => ∃ (F : Hp) (v : V) (d : List Nat), vs = [v] ∧ Same F H ∧ rL rNat F v d ∧ 42 ≤ d.length ∧ (∀ x ∈ d, x < 100) ∧ ∀ v F' H', Ext F H F' H' → rL rC F' v (lawSigns d) → Q v H'
theorem dg_at {d : List Nat} {i : Nat} (h : i < d.length) : (d.map vn)[i]? = some (vn (dg d i)) := by
  rw [List.getElem?_map, List.getElem?_eq_getElem h]
  unfold dg
  rw [List.getElem?_eq_getElem h]
  rfl
theorem dg_get {l : List Nat} {i : Nat} (h : i < l.length) : l[i]? = some (dg l i) := by
  unfold dg
  rw [List.getElem?_eq_getElem h]
  rfl
theorem dg_lt {d : List Nat} {B : Nat} (h : ∀ x ∈ d, x < B) (hB : 0 < B) (i : Nat) : dg d i < B := by
  unfold dg
  cases e : d[i]? with
  | none => exact hB
  | some x => exact h x (List.mem_of_getElem? e)
theorem S_letters : (Str.ofString "ABCDEFGHIJKLMNOPQRSTUVWXYZ") = S ((List.range 26).map (65 + ·)) := by decide +kernel
theorem S_every : (Str.ofString "abcdefghijklmnopqrstuvwxyz0123456789()[]{}+-*/,.;:!?") = S SIGNSl := by decide +kernel
theorem ok_names (T : Txt K mg a) : FnOk P w K mg base CX0 1 a._law_names a.d__law_names ["_law_draws_here"] sp_names := by
  refine T.f__law_names.ok sc__law_names (fun vs H Q E h => ?_) (fun cdv A outer s H vs Q E hr h => ?_)
  · obtain ⟨F, v, d, rfl, _⟩ := h; rfl
  · obtain ⟨F, _, d, rfl, sF, ⟨da, dvs, rfl, hda, dal⟩, h42, h100, k⟩ := h
    refine ⟨_, (pss_cons (ps_set (i := 1) sc__law_names.nd rfl (Or.inr rfl) pe_str)
  (pss_one (ps_ret (pe_lc (own := [("_law_k", 2)]) (g := gName 2) (tt := tYes) (by rfl) sc__law_names.nd (pi_range1 (by rfl) T.z_range (pa_cons (pe_op op_add pe_int (pe_op op_mod (pe_ix (ix_listK (K := K)) (pv 0) pe_int (fun _ _ => rfl)) pe_int)) pa_nil)) (blkOk_by (own := [("_law_k", 2)]) (N := n__law_names) (sc := (defScope s__law_names)) (by decide +kernel)) (fun _ _ _ _ _ => (pg_name (i := 2) sc__law_names.nd rfl (Or.inl rfl))) (fun _ _ _ _ _ => pts_nil) (fun _ _ _ _ _ => (pe_ix ix_str (pv 1) (pe_op op_mod (pe_op op_add (pe_ix (ix_listK (K := K)) (pv 0) pe_int (fun _ _ => rfl)) (pe_op op_mul (pv 2) (pe_op op_add pe_int (pe_op op_mod (pe_ix (ix_listK (K := K)) (pv 0) pe_int (fun _ _ => rfl)) pe_int)))) pe_int) (fun _ _ => rfl))))))), ?_⟩
    have hdv : dvs = d.map vn := by rw [dal.nats, List.map_map]; rfl
    subst hdv
    have hdH := sF _ _ hda
    refine ⟨_, rfl, da, _, _, vn (dg d (2)), rfl, rfl, SqL.of hdH, at_of (j := 2) (by first | rfl | omega) (dg_at (by omega)), _, _, rfl, rfl, (by show (0 : Int) < 3; decide), _, _, rfl, rfl, ?_⟩
    dsimp only
    refine ⟨_, rfl, by omega, by omega, fun D hD => ?_⟩
    have en : (1 + ((dg d 2 : Nat) : Int) % 3).toNat = 1 + dg d 2 % 3 := by omega
    rw [en]
    refine lc_rng (r := rC) (fun k => 65 + (dg d 0 + k * (1 + dg d 1 % 12)) % 26) hD sF (by rw [sl64]; omega) (fun i F4 H4 hi e4 Qy q => ?_) (fun ws F5 H5 e5 fD al => k _ F5 H5 e5 ⟨D, ws, rfl, fD, al⟩)
    have hd4 := e4.sm _ _ hda
    refine ⟨rfl, _, rfl, _, rfl, da, _, _, vn (dg d (0)), rfl, rfl, SqL.of hd4, at_of (j := 0) (by first | rfl | omega) (dg_at (by omega)), _, rfl, _, rfl, da, _, _, vn (dg d (1)), rfl, rfl, SqL.of hd4, at_of (j := 1) (by first | rfl | omega) (dg_at (by omega)), _, _, rfl, rfl, (by show (0 : Int) < 12; decide), _, _, rfl, rfl, _, _, rfl, rfl, .inl ⟨?_, ?_⟩, _, _, rfl, rfl, _, _, rfl, rfl, (by show (0 : Int) < 26; decide), ?_⟩
    · omega
    · omega
    dsimp only
    have ei : (((dg d 0 : Nat) : Int) + (0 + (i : Nat)) * (1 + ((dg d 1 : Nat) : Int) % 12)) % 26 = (((dg d 0 + i * (1 + dg d 1 % 12)) % 26 : Nat) : Int) := by
      rw [Int.zero_add]
      push_cast
      rfl
    refine ⟨_, _, 65 + (dg d 0 + i * (1 + dg d 1 % 12)) % 26, rfl, rfl, ?_, ?_, ?_⟩
    · rw [S_letters, S_len, sl64]; simp
    · rw [S_letters, S_cps]
      have hlt : (dg d 0 + i * (1 + dg d 1 % 12)) % 26 < 26 := Nat.mod_lt _ (by decide)
      refine at_ofG (j := (dg d 0 + i * (1 + dg d 1 % 12)) % 26) ei ?_
      rw [List.getElem?_map, List.getElem?_range hlt]
      rfl
    · exact q _ F4 H4 (Ext.refl e4.fh) rfl
theorem ok_signs (T : Txt K mg a) : FnOk P w K mg base CX0 1 a._law_signs a.d__law_signs ["_law_draws_here"] sp_signs := by
  refine T.f__law_signs.ok sc__law_signs (fun vs H Q E h => ?_) (fun cdv A outer s H vs Q E hr h => ?_)
  · obtain ⟨F, v, d, rfl, _⟩ := h; rfl
  · obtain ⟨F, _, d, rfl, sF, ⟨da, dvs, rfl, hda, dal⟩, h42, h100, k⟩ := h
    refine ⟨_, (pss_cons (ps_set (i := 1) sc__law_signs.nd rfl (Or.inr rfl) pe_str)
  (pss_one (ps_ret (pe_lc (own := [("_law_k", 2)]) (g := gName 2) (tt := tYes) (by rfl) sc__law_signs.nd (pi_range1 (by rfl) T.z_range (pa_cons (pe_op op_add pe_int (pe_op op_mod (pe_ix (ix_listK (K := K)) (pv 0) pe_int (fun _ _ => rfl)) pe_int)) pa_nil)) (blkOk_by (own := [("_law_k", 2)]) (N := n__law_signs) (sc := (defScope s__law_signs)) (by decide +kernel)) (fun _ _ _ _ _ => (pg_name (i := 2) sc__law_signs.nd rfl (Or.inl rfl))) (fun _ _ _ _ _ => pts_nil) (fun _ _ _ _ _ => (pe_ix ix_str (pv 1) (pe_op op_mod (pe_op op_add (pe_ix (ix_listK (K := K)) (pv 0) pe_int (fun _ _ => rfl)) (pe_op op_mul (pv 2) (pe_op op_add pe_int (pe_op op_mod (pe_ix (ix_listK (K := K)) (pv 0) pe_int (fun _ _ => rfl)) pe_int)))) pe_int) (fun _ _ => rfl))))))), ?_⟩
    have hdv : dvs = d.map vn := by rw [dal.nats, List.map_map]; rfl
    subst hdv
    have hdH := sF _ _ hda
    refine ⟨_, rfl, da, _, _, vn (dg d (5)), rfl, rfl, SqL.of hdH, at_of (j := 5) (by first | rfl | omega) (dg_at (by omega)), _, _, rfl, rfl, (by show (0 : Int) < 3; decide), _, _, rfl, rfl, ?_⟩
    dsimp only
    refine ⟨_, rfl, by omega, by omega, fun D hD => ?_⟩
    have en : (1 + ((dg d 5 : Nat) : Int) % 3).toNat = 1 + dg d 5 % 3 := by omega
    rw [en]
    refine lc_rng (r := rC) (fun k => dg SIGNSl ((dg d 3 + k * (1 + dg d 4 % 17)) % 52)) hD sF (by rw [sl64]; omega) (fun i F4 H4 hi e4 Qy q => ?_) (fun ws F5 H5 e5 fD al => k _ F5 H5 e5 ⟨D, ws, rfl, fD, al⟩)
    have hd4 := e4.sm _ _ hda
    refine ⟨rfl, _, rfl, _, rfl, da, _, _, vn (dg d (3)), rfl, rfl, SqL.of hd4, at_of (j := 3) (by first | rfl | omega) (dg_at (by omega)), _, rfl, _, rfl, da, _, _, vn (dg d (4)), rfl, rfl, SqL.of hd4, at_of (j := 4) (by first | rfl | omega) (dg_at (by omega)), _, _, rfl, rfl, (by show (0 : Int) < 17; decide), _, _, rfl, rfl, _, _, rfl, rfl, .inl ⟨?_, ?_⟩, _, _, rfl, rfl, _, _, rfl, rfl, (by show (0 : Int) < 52; decide), ?_⟩
    · omega
    · omega
    dsimp only
    have ei : (((dg d 3 : Nat) : Int) + (0 + (i : Nat)) * (1 + ((dg d 4 : Nat) : Int) % 17)) % 52 = (((dg d 3 + i * (1 + dg d 4 % 17)) % 52 : Nat) : Int) := by
      rw [Int.zero_add]
      push_cast
      rfl
    have hlt : (dg d 3 + i * (1 + dg d 4 % 17)) % 52 < 52 := Nat.mod_lt _ (by decide)
    refine ⟨_, _, dg SIGNSl ((dg d 3 + i * (1 + dg d 4 % 17)) % 52), rfl, rfl, ?_, ?_, ?_⟩
    · rw [S_every, S_len, sl64]; decide
    · rw [S_every, S_cps]
      refine at_ofG (j := (dg d 3 + i * (1 + dg d 4 % 17)) % 52) ei ?_
      exact dg_get hlt
    · exact q _ F4 H4 (Ext.refl e4.fh) rfl
end
end SF
namespace SF
open PySem PySem.Spec PyProof.Rows L2
def sp_known : Sp := fun vs H Q _ => ∃ (F : Hp) (n : Nat) (nv sv : V) (names signs : List Nat), vs = [.int n, nv, sv] ∧ Same F H ∧ rL rC F nv names ∧ rL rC F sv signs ∧ 1 ≤ names.length ∧ 1 ≤ signs.length ∧ ∀ v F' H', Ext F H F' H' → rL rRule F' v (lawKnown n names signs) → Q v H'
theorem cs_at {l : List Nat} {i : Nat} (h : i < l.length) : (l.map vc)[i]? = some (vc (dg l i)) := by
  rw [List.getElem?_map, List.getElem?_eq_getElem h]
  unfold dg
  rw [List.getElem?_eq_getElem h]
  rfl
theorem rd_at {l : List Nat} {n : Nat} (h : 1 ≤ l.length) : (l.map vc)[n % l.length]? = some (vc (rd l n)) := cs_at (Nat.mod_lt _ h)
section
variable {P : Program} {w : World} {K : PySem.W.Frag} {mg : Str → Option Value} {base : Heap} {a : Ad}
theorem ok_known (T : Txt K mg a) : FnOk P w K mg base CX0 1 a._law_known a.d__law_known ["_law_number", "_law_names_here", "_law_signs_here"] sp_known := by
  refine T.f__law_known.ok sc__law_known (fun vs H Q E h => ?_) (fun cdv A outer s H vs Q E hr h => ?_)
  · obtain ⟨F, n, nv, sv, x, y, rfl, _⟩ := h; rfl
  · obtain ⟨F, n, _, _, names, signs, rfl, sF, ⟨na, nvs, rfl, hna, nal⟩, ⟨sa, svs, rfl, hsa, sal⟩, h1, h2, k⟩ := h
    refine ⟨_, (pss_cons (ps_set (i := 3) sc__law_known.nd rfl (Or.inl rfl) (pe_ix (ix_listK (K := K)) (pv 1) pe_int (fun _ _ => rfl)))
  (pss_cons (ps_set (i := 4) sc__law_known.nd rfl (Or.inl rfl) (pe_ix (ix_listK (K := K)) (pv 1) (pe_op op_mod pe_int (pe_callB (call_lenK (K := K)) (by rfl) T.z_len PySem.boot_len (pa_cons (pv 1) pa_nil))) (fun _ _ => rfl)))
  (pss_cons (ps_set (i := 5) sc__law_known.nd rfl (Or.inl rfl) (pe_ix (ix_listK (K := K)) (pv 1) (pe_op op_mod pe_int (pe_callB (call_lenK (K := K)) (by rfl) T.z_len PySem.boot_len (pa_cons (pv 1) pa_nil))) (fun _ _ => rfl)))
  (pss_cons (ps_set (i := 6) sc__law_known.nd rfl (Or.inl rfl) (pe_ix (ix_listK (K := K)) (pv 2) pe_int (fun _ _ => rfl)))
  (pss_cons (ps_set (i := 7) sc__law_known.nd rfl (Or.inl rfl) (pe_ix (ix_listK (K := K)) (pv 2) (pe_op op_mod pe_int (pe_callB (call_lenK (K := K)) (by rfl) T.z_len PySem.boot_len (pa_cons (pv 2) pa_nil))) (fun _ _ => rfl)))
  (pss_cons (ps_set (i := 8) sc__law_known.nd rfl (Or.inl rfl) (pe_ix (ix_listK (K := K)) (pv 2) (pe_op op_mod pe_int (pe_callB (call_lenK (K := K)) (by rfl) T.z_len PySem.boot_len (pa_cons (pv 2) pa_nil))) (fun _ _ => rfl)))
  (pss_cons (ps_set (i := 9) sc__law_known.nd rfl (Or.inl rfl) (pe_lst (pa_cons (pe_lst (pa_cons (pe_tup (pa_cons (pv 3) (pa_cons (pe_op op_add_str (pe_op op_add_str (pv 6) (pv 3)) (pv 7)) pa_nil))) pa_nil)) (pa_cons (pe_lst (pa_cons (pe_tup (pa_cons (pv 3) (pa_cons (pe_op op_add_str (pe_op op_add_str (pe_op op_add_str (pv 6) (pv 3)) (pv 7)) (pv 3)) pa_nil))) pa_nil)) (pa_cons (pe_lst (pa_cons (pe_tup (pa_cons (pv 3) (pa_cons (pe_op op_add_str (pe_op op_add_str (pv 4) (pv 8)) (pv 3)) pa_nil))) (pa_cons (pe_tup (pa_cons (pv 3) (pa_cons (pv 4) pa_nil))) (pa_cons (pe_tup (pa_cons (pv 4) (pa_cons (pe_op op_add_str (pe_op op_add_str (pv 6) (pv 3)) (pv 7)) pa_nil))) pa_nil)))) (pa_cons (pe_lst (pa_cons (pe_tup (pa_cons (pv 3) (pa_cons (pe_op op_add_str (pe_op op_add_str (pv 6) (pv 3)) (pv 6)) pa_nil))) (pa_cons (pe_tup (pa_cons (pv 3) (pa_cons (pe_op op_add_str (pe_op op_add_str (pv 7) (pv 3)) (pv 7)) pa_nil))) pa_nil))) (pa_cons (pe_lst (pa_cons (pe_tup (pa_cons (pv 3) (pa_cons (pe_op op_add_str (pv 4) (pv 5)) pa_nil))) (pa_cons (pe_tup (pa_cons (pv 4) (pa_cons (pe_op op_add_str (pv 6) (pv 4)) pa_nil))) (pa_cons (pe_tup (pa_cons (pv 5) (pa_cons (pe_op op_add_str (pv 5) (pv 7)) pa_nil))) pa_nil)))) (pa_cons (pe_lst (pa_cons (pe_tup (pa_cons (pv 3) (pa_cons (pe_op op_add_str (pv 3) (pv 3)) pa_nil))) (pa_cons (pe_tup (pa_cons (pv 3) (pa_cons (pe_op op_add_str (pe_op op_add_str (pv 6) (pv 3)) (pv 7)) pa_nil))) pa_nil))) (pa_cons (pe_lst (pa_cons (pe_tup (pa_cons (pv 3) (pa_cons (pe_op op_add_str (pv 6) (pv 4)) pa_nil))) (pa_cons (pe_tup (pa_cons (pv 4) (pa_cons (pe_op op_add_str (pv 7) (pv 3)) pa_nil))) (pa_cons (pe_tup (pa_cons (pv 4) (pa_cons (pe_op op_add_str (pv 8) (pv 5)) pa_nil))) (pa_cons (pe_tup (pa_cons (pv 5) (pa_cons (pe_op op_add_str (pv 6) (pv 5)) pa_nil))) pa_nil))))) (pa_cons (pe_lst (pa_cons (pe_tup (pa_cons (pv 3) (pa_cons (pe_op op_add_str (pe_op op_add_str (pv 4) (pv 6)) (pv 5)) pa_nil))) (pa_cons (pe_tup (pa_cons (pv 4) (pa_cons (pe_op op_add_str (pv 5) (pv 4)) pa_nil))) (pa_cons (pe_tup (pa_cons (pv 5) (pa_cons (pv 7) pa_nil))) pa_nil)))) pa_nil))))))))))
  (pss_one (ps_ret (pe_ix (ix_listK (K := K)) (pv 9) (pe_op op_mod (pv 0) pe_int) (fun _ _ => rfl))))))))))), ?_⟩
    obtain rfl : nvs = names.map vc := nal.cs
    obtain rfl : svs = signs.map vc := sal.cs
    have hnH := sF _ _ hna
    have hsH := sF _ _ hsa
    have mod1 : ∀ (i : Nat) (l : List Nat), ((i : Nat) : Int) % (((l.map vc).length : Nat) : Int) = ((i % l.length : Nat) : Int) := fun i l => by rw [List.length_map]; omega
    have pos : ∀ l : List Nat, 1 ≤ l.length → (0 : Int) < (((l.map vc).length : Nat) : Int) := fun l h => by rw [List.length_map]; omega
    refine ⟨_, rfl, na, _, _, vc (dg names 0), rfl, rfl, SqL.of hnH, at_of (j := 0) rfl (cs_at (by omega)), ?_⟩
    refine ⟨_, rfl, _, rfl, na, _, rfl, .inl (SqL.of hnH), _, _, rfl, rfl, pos names h1, na, _, _, vc (rd names 1), rfl, rfl, SqL.of hnH, at_of (j := 1 % names.length) (mod1 1 names) (rd_at h1), ?_⟩
    refine ⟨_, rfl, _, rfl, na, _, rfl, .inl (SqL.of hnH), _, _, rfl, rfl, pos names h1, na, _, _, vc (rd names 2), rfl, rfl, SqL.of hnH, at_of (j := 2 % names.length) (mod1 2 names) (rd_at h1), ?_⟩
    refine ⟨_, rfl, sa, _, _, vc (dg signs 0), rfl, rfl, SqL.of hsH, at_of (j := 0) rfl (cs_at (by omega)), ?_⟩
    refine ⟨_, rfl, _, rfl, sa, _, rfl, .inl (SqL.of hsH), _, _, rfl, rfl, pos signs h2, sa, _, _, vc (rd signs 1), rfl, rfl, SqL.of hsH, at_of (j := 1 % signs.length) (mod1 1 signs) (rd_at h2), ?_⟩
    refine ⟨_, rfl, _, rfl, sa, _, rfl, .inl (SqL.of hsH), _, _, rfl, rfl, pos signs h2, sa, _, _, vc (rd signs 2), rfl, rfl, SqL.of hsH, at_of (j := 2 % signs.length) (mod1 2 signs) (rd_at h2), ?_⟩
    generalize hS : dg names 0 = S0
    generalize hA : rd names 1 = A0
    generalize hB : rd names 2 = B0
    generalize hX : dg signs 0 = X0
    generalize hY : rd signs 1 = Y0
    generalize hZ : rd signs 2 = Z0
    unfold gName
    dsimp only
    unfold tSeq tAsg
    dsimp only
    refine menu_mk_use (s := S0) (a := A0) (b := B0) (x := X0) (y := Y0) (z := Z0) rfl rfl rfl rfl rfl rfl sF fun v F1 H1 e1 hv => ?_
    obtain ⟨ma, mvs, rfl, hma, mal⟩ := hv
    have hn8 : n % 8 < 8 := Nat.mod_lt _ (by decide)
    have hk : ∃ rules, ([[(S0, [X0] ++ [S0] ++ [Y0])], [(S0, [X0] ++ [S0] ++ [Y0] ++ [S0])], [(S0, [A0] ++ [Z0] ++ [S0]), (S0, [A0]), (A0, [X0] ++ [S0] ++ [Y0])], [(S0, [X0] ++ [S0] ++ [X0]), (S0, [Y0] ++ [S0] ++ [Y0])], [(S0, [A0] ++ [B0]), (A0, [X0] ++ [A0]), (B0, [B0] ++ [Y0])],
        [(S0, [S0] ++ [S0]), (S0, [X0] ++ [S0] ++ [Y0])], [(S0, [X0] ++ [A0]), (A0, [Y0] ++ [S0]), (A0, [Z0] ++ [B0]), (B0, [X0] ++ [B0])], [(S0, [A0] ++ [X0] ++ [B0]), (A0, [B0] ++ [A0]), (B0, [Y0])]] : List (List Rule))[n % 8]? = some rules ∧ rules = lawKnown n names signs := by
      unfold lawKnown
      rw [hS, hA, hB, hX, hY, hZ]
      dsimp only
      generalize n % 8 = i at hn8
      have hcase : i = 0 ∨ i = 1 ∨ i = 2 ∨ i = 3 ∨ i = 4 ∨ i = 5 ∨ i = 6 ∨ i = 7 := by omega
      rcases hcase with rfl | rfl | rfl | rfl | rfl | rfl | rfl | rfl <;> exact ⟨_, rfl, rfl⟩
    obtain ⟨rules, hr1, hr2⟩ := hk
    obtain ⟨rv, hrv, hrr⟩ := mal.get' hr1
    refine ⟨_, rfl, _, rfl, _, _, rfl, rfl, (by show (0 : Int) < 8; decide), ma, _, _, rv, rfl, rfl, SqL.of (e1.fh _ _ hma), at_of (j := n % 8) (by omega) hrv, ?_⟩
    rw [hr2] at hrr
    exact k rv F1 H1 e1 hrr
end
end SF
namespace SF
open PySem PySem.Spec PyProof.Rows L2
theorem with_ends {t : L2.TS} {D : Ends} {σ : L2.St} {H : Hp} (N : L2.St → Hp → Prop) (hN : ∀ σ H, N σ H → D.nx σ H) (h : ∀ D' : Ends, (∀ σ H, N σ H → D'.nx σ H) → t D' σ H) : t D σ H := h D hN
theorem seq_with {t u : L2.TS} {D : Ends} {σ : L2.St} {H : Hp} (N : L2.St → Hp → Prop) (hN : ∀ σ H, N σ H → u D σ H) (h : ∀ D' : Ends, (∀ σ H, N σ H → D'.nx σ H) → t D' σ H) : tSeq t u D σ H := h { D with nx := u D } hN
theorem gName_in {i : Nat} {v : V} {σ : L2.St} {H : Hp} {Q : L2.St → Hp → Prop} (h : Q (σ.set i (some v)) H) : gName i v σ H Q := h
theorem Al.take {α : Type} {r : Rl α} {F : Hp} : ∀ {vs : List V} {xs : List α} (n : Nat), Al r F vs xs → Al r F (vs.take n) (xs.take n)
  | _, _, 0, _ => .nil
  | _, _, n + 1, .nil => .nil
  | _, _, n + 1, .cons h t => .cons h (Al.take n t)
theorem Al.drop {α : Type} {r : Rl α} {F : Hp} : ∀ {vs : List V} {xs : List α} (n : Nat), Al r F vs xs → Al r F (vs.drop n) (xs.drop n)
  | _, _, 0, h => h
  | _, _, n + 1, .nil => .nil
  | _, _, n + 1, .cons _ t => Al.drop n t
theorem Al.ins {α : Type} {r : Rl α} {F : Hp} {vs : List V} {xs : List α} (n : Nat) {v : V} {x : α} (h : Al r F vs xs) (q : r F v x) : Al r F (vs.take n ++ [v] ++ vs.drop n) (insAt xs n x) := ((h.take n).snoc q).app (h.drop n)
def sp_grammar : Sp := fun vs H Q _ => ∃ (F : Hp) (v : V) (d : List Nat), vs = [v] ∧ Same F H ∧ rL rNat F v d ∧ 42 ≤ d.length ∧ (∀ x ∈ d, x < 100) ∧ ∀ v F' H', Ext F H F' H' → rL rRule F' v (lawGrammar d) → Q v H'
section
variable {P : Program} {w : World} {K : PySem.W.Frag} {mg : Str → Option Value} {base : Heap} {a : Ad}
theorem ok_grammar (T : Txt K mg a) : FnOk P w K mg base CX0 2 a._law_grammar a.d__law_grammar ["_law_draws_here"] sp_grammar := by
  have G__law_names := ok_names (P := P) (w := w) (base := base) T
  have G__law_signs := ok_signs (P := P) (w := w) (base := base) T
  have G__law_known := ok_known (P := P) (w := w) (base := base) T
  refine T.f__law_grammar.ok sc__law_grammar (fun vs H Q E h => ?_) (fun cdv A outer s H vs Q E hr h => ?_)
  · obtain ⟨F, v, d, rfl, _⟩ := h; rfl
  · obtain ⟨F, _, d, rfl, sF, ⟨da, dvs, rfl, hda, dal⟩, h42, h100, k⟩ := h
    refine ⟨_, (pss_cons (ps_set (i := 1) sc__law_grammar.nd rfl (Or.inl rfl) (pe_call G__law_names (hr.mono (by decide)) (by rfl) T.m__law_names T.f__law_names.kp T.b__law_names .nil pass0 (pa_cons (pv 0) pa_nil)))
  (pss_cons (ps_set (i := 2) sc__law_grammar.nd rfl (Or.inl rfl) (pe_call G__law_signs (hr.mono (by decide)) (by rfl) T.m__law_signs T.f__law_signs.kp T.b__law_signs .nil pass0 (pa_cons (pv 0) pa_nil)))
  (pss_cons (ps_set (i := 3) sc__law_grammar.nd rfl (Or.inl rfl) (pe_op op_cat (pv 1) (pv 2)))
  (pss_cons (ps_set (i := 4) sc__law_grammar.nd rfl (Or.inl rfl) (pe_lst pa_nil))
  (pss_cons (ps_if (pt_cmpR op_eq (pe_op op_mod (pe_ix (ix_listK (K := K)) (pv 0) pe_int (fun _ _ => rfl)) pe_int) pe_int (nomark _))
    (pss_one (ps_set (i := 4) sc__law_grammar.nd rfl (Or.inl rfl) (pe_callTy (call_listK (K := K)) (by rfl) T.z_list (by decide +kernel) (pa_cons (pe_call G__law_known (hr.mono (by decide)) (by rfl) T.m__law_known T.f__law_known.kp T.b__law_known .nil pass0 (pa_cons (pe_ix (ix_listK (K := K)) (pv 0) pe_int (fun _ _ => rfl)) (pa_cons (pv 1) (pa_cons (pv 2) pa_nil)))) pa_nil))))
    (pss_one (ps_for PassesOwn.never rfl (pi_range1 (by rfl) T.z_range (pa_cons (pe_op op_mod (pe_op op_fdiv (pe_ix (ix_listK (K := K)) (pv 0) pe_int (fun _ _ => rfl)) pe_int) pe_int) pa_nil)) (pg_name (i := 5) sc__law_grammar.nd rfl (Or.inl rfl))
    (pss_cons (ps_set (i := 6) sc__law_grammar.nd rfl (Or.inl rfl) (pe_op op_add pe_int (pe_op op_mul pe_int (pv 5))))
  (pss_cons (ps_set (i := 7) sc__law_grammar.nd rfl (Or.inl rfl) pe_str)
  (pss_cons (ps_for PassesOwn.never rfl (pi_range1 (by rfl) T.z_range (pa_cons (pe_op op_mod (pe_ix (ix_listK (K := K)) (pv 0) (pe_op op_add (pv 6) pe_int) (fun _ _ => rfl)) pe_int) pa_nil)) (pg_name (i := 8) sc__law_grammar.nd rfl (Or.inl rfl))
    (pss_one (ps_set (i := 7) sc__law_grammar.nd rfl (Or.inl rfl) (pe_op op_add_str (pv 7) (pe_ix (ix_listK (K := K)) (pv 3) (pe_op op_mod (pe_ix (ix_listK (K := K)) (pv 0) (pe_op op_add (pe_op op_add (pv 6) pe_int) (pv 8)) (fun _ _ => rfl)) (pe_callB (call_lenK (K := K)) (by rfl) T.z_len PySem.boot_len (pa_cons (pv 3) pa_nil))) (fun _ _ => rfl))))))
  (pss_one (ps_expr (pe_bmK (K := K) PySem.F.plainAttrs_list PySem.F.slot_list_append PySem.F.type_list_append mt_append (pv 4) (pa_cons (pe_tup (pa_cons (pe_ix (ix_listK (K := K)) (pv 1) (pe_op op_mod (pe_ix (ix_listK (K := K)) (pv 0) (pv 6) (fun _ _ => rfl)) (pe_callB (call_lenK (K := K)) (by rfl) T.z_len PySem.boot_len (pa_cons (pv 1) pa_nil))) (fun _ _ => rfl)) (pa_cons (pv 7) pa_nil))) pa_nil))))))))))
  (pss_cons (ps_for PassesOwn.never rfl (pi_range1 (by rfl) T.z_range (pa_cons (pe_callB (call_lenK (K := K)) (by rfl) T.z_len PySem.boot_len (pa_cons (pv 1) pa_nil)) pa_nil)) (pg_name (i := 5) sc__law_grammar.nd rfl (Or.inl rfl))
    (pss_cons (ps_set (i := 6) sc__law_grammar.nd rfl (Or.inl rfl) (pe_op op_add pe_int (pe_op op_mul pe_int (pv 5))))
  (pss_cons (ps_set (i := 9) sc__law_grammar.nd rfl (Or.inl rfl) (pe_ix (ix_listK (K := K)) (pv 2) (pe_op op_mod (pe_ix (ix_listK (K := K)) (pv 0) (pe_op op_add (pv 6) pe_int) (fun _ _ => rfl)) (pe_callB (call_lenK (K := K)) (by rfl) T.z_len PySem.boot_len (pa_cons (pv 2) pa_nil))) (fun _ _ => rfl)))
  (pss_cons (ps_set (i := 10) sc__law_grammar.nd rfl (Or.inl rfl) (pe_ix (ix_listK (K := K)) (pe_lst (pa_cons pe_str (pa_cons (pv 9) (pa_cons (pe_op op_add_str (pv 9) (pe_ix (ix_listK (K := K)) (pv 2) (pe_op op_mod (pe_op op_fdiv (pe_ix (ix_listK (K := K)) (pv 0) (pe_op op_add (pv 6) pe_int) (fun _ _ => rfl)) pe_int) (pe_callB (call_lenK (K := K)) (by rfl) T.z_len PySem.boot_len (pa_cons (pv 2) pa_nil))) (fun _ _ => rfl))) (pa_cons (pv 9) pa_nil))))) (pe_op op_mod (pe_ix (ix_listK (K := K)) (pv 0) (pv 6) (fun _ _ => rfl)) pe_int) (fun _ _ => rfl)))
  (pss_one (ps_if (PW.pt (pw_or (pt_cmpR op_eq (pv 5) pe_int (nomark _)) (pw_or1 (pt_cmpR op_lt (pe_op op_mod (pe_ix (ix_listK (K := K)) (pv 0) (pv 6) (fun _ _ => rfl)) pe_int) pe_int (nomark _)))))
    (pss_one (ps_expr (pe_bmK (K := K) PySem.F.plainAttrs_list PySem.F.slot_list_insert PySem.F.type_list_insert mt_insert (pv 4) (pa_cons (pe_op op_mod (pe_ix (ix_listK (K := K)) (pv 0) (pe_op op_add (pv 6) pe_int) (fun _ _ => rfl)) (pe_op op_add (pe_callB (call_lenK (K := K)) (by rfl) T.z_len PySem.boot_len (pa_cons (pv 4) pa_nil)) pe_int)) (pa_cons (pe_tup (pa_cons (pe_ix (ix_listK (K := K)) (pv 1) (pv 5) (fun _ _ => rfl)) (pa_cons (pv 10) pa_nil))) pa_nil)))))
    pss_nil))))))
  (pss_one (ps_ret (pv 4))))))))), ?_⟩
    obtain rfl : dvs = d.map vn := by rw [dal.nats, List.map_map]; rfl
    refine ⟨_, rfl, F, _, d, rfl, sF, ⟨da, _, rfl, hda, dal⟩, h42, h100, fun v F1 H1 e1 hv => ?_⟩
    obtain ⟨na, nvs, rfl, hna, nal⟩ := hv
    obtain rfl : nvs = (lawNames d).map vc := nal.cs
    refine ⟨_, rfl, F1, _, d, rfl, e1.fh, ⟨da, _, rfl, e1.ff _ _ hda, dal.mono e1.ff⟩, h42, h100, fun v F2 H2 e2 hv => ?_⟩
    obtain ⟨sa, svs, rfl, hsa, sal⟩ := hv
    obtain rfl : svs = (lawSigns d).map vc := sal.cs
    obtain ⟨n1, n3⟩ := lawNames_len d
    obtain ⟨s1, s3⟩ := lawSigns_len d
    generalize hnames : lawNames d = names at *
    generalize hsigns : lawSigns d = signs at *
    have hna2 := e2.ff _ _ hna
    refine ⟨_, rfl, _, rfl, na, sa, _, _, rfl, rfl, e2.fh _ _ hna2, e2.fh _ _ hsa, by rw [List.length_map, List.length_map, sl64]; omega, fun pa hpa => ?_⟩
    have e12 := e1.trans e2
    have e3 := e12.newF hpa (o := .lst (names.map vc ++ signs.map vc))
    have e3' := (Ext.refl e2.fh).newF hpa (o := .lst (names.map vc ++ signs.map vc))
    have hpaF := upd_same (H := F2) (a := pa) (o := .lst (names.map vc ++ signs.map vc))
    have hna3 := e3'.ff _ _ hna2
    have hsa3 := e3'.ff _ _ hsa
    have hda3 := e3.ff _ _ hda
    rw [← List.map_append] at hpaF hna3 hsa3 hda3 e3 ⊢
    generalize upd F2 pa (.lst ((names ++ signs).map vc)) = F3 at *
    generalize upd H2 pa (.lst ((names ++ signs).map vc)) = H3 at *
    clear e3' e12 hna2 hsa hpa e2 e1 hna nal sal
    refine ⟨by rw [sl64]; simp, fun l hl => ?_⟩
    have e4 := e3.newM hl (o := .lst [])
    have hl0 : H l = none := e3.free hl
    refine gName_in ?_
    dsimp only
    refine seq_with (t := tIfS _ _ _) (fun σ H' => ∃ (L : Addr) (x5 x6 x7 x8 : Option V) (F' : Hp) (rvs : List V), σ = [some (.ref da), some (.ref na), some (.ref sa), some (.ref pa), some (.ref L), x5, x6, x7, x8, none, none] ∧ Ext F H F' H' ∧ Same F3 F' ∧ H L = none ∧ F' L = none ∧
      H' L = some (.lst rvs) ∧ Al rRule F' rvs (lawRules0 d names signs)) (fun σ H' hst => ?_) (fun D' hD' => ?_)
    · obtain ⟨L, x5, x6, x7, x8, F4, rvs4, rfl, e4', s4, hL0, f4, hL4, al4⟩ := hst
      have hn4 := e4'.fh _ _ (s4 _ _ hna3)
      refine ⟨_, rfl, na, _, rfl, .inl (SqL.of hn4), _, rfl, by rw [List.length_map]; omega, by rw [List.length_map]; omega, ?_⟩
      rw [Int.toNat_natCast, List.length_map]
      refine for_range (lo := 0) (n := names.length) (fun i σ H' => ∃ (x5 x6 x7 x8 x9 x10 : Option V) (F' : Hp) (rvs : List V), σ = [some (.ref da), some (.ref na), some (.ref sa), some (.ref pa), some (.ref L), x5, x6, x7, x8, x9, x10] ∧ Ext F H F' H' ∧ Same F3 F' ∧ F' L = none ∧
        H' L = some (.lst rvs) ∧ Al rRule F' rvs ((List.range i).foldl (lawEnd d names signs) (lawRules0 d names signs))) ⟨x5, x6, x7, x8, none, none, F4, rvs4, rfl, e4', s4, f4, hL4, al4⟩ ?_ ?_
      · rintro i σ H5 hi ⟨x5, x6, x7, x8, x9, x10, F5, rvs, rfl, e5, s5, f5, hL5, al5⟩
        rw [List.range_succ, List.foldl_append]
        have hrl : ((List.range i).foldl (lawEnd d names signs) (lawRules0 d names signs)).length ≤ 5 + i := (ends_ok d names signs n1 s1 (by rw [← hsigns]; exact lawSigns_sgn d) i (by omega)).2.1
        generalize (List.range i).foldl (lawEnd d names signs) (lawRules0 d names signs) = rules at al5 hrl ⊢
        rw [show List.foldl (lawEnd d names signs) rules [i] = lawEnd d names signs rules i from rfl]
        have hd5 := e5.fh _ _ (s5 _ _ hda3)
        have hn5 := e5.fh _ _ (s5 _ _ hna3)
        have hs5 := e5.fh _ _ (s5 _ _ hsa3)
        refine ⟨_, rfl, _, _, rfl, rfl, .inr ⟨?_, ?_⟩, _, _, rfl, rfl, ?_⟩
        · omega
        · omega
        dsimp only
        have ea : (33 : Int) + 3 * (0 + (i : Nat)) = ((33 + 3 * i : Nat) : Int) := by omega
        rw [ea]
        -- one
        refine ⟨_, rfl, _, rfl, _, rfl, _, _, rfl, rfl, da, _, _, vn (dg d (33 + 3 * i + 1)), rfl, rfl, SqL.of hd5, at_of (j := 33 + 3 * i + 1) (by first | rfl | omega) (dg_at (by omega)), _, rfl, sa, _, rfl, .inl (SqL.of hs5), _, _, rfl, rfl, (by rw [List.length_map]; omega), sa, _, _, vc (rd signs (dg d (33 + 3 * i + 1))), rfl, rfl, SqL.of hs5, at_of (j := dg d (33 + 3 * i + 1) % signs.length) (by rw [List.length_map]; omega) (rd_at s1), ?_⟩
        -- ending
        refine ⟨_, rfl, _, rfl, _, rfl, _, rfl, _, rfl, _, _, rfl, rfl, da, _, _, vn (dg d (33 + 3 * i + 1)), rfl, rfl, SqL.of hd5, at_of (j := 33 + 3 * i + 1) (by first | rfl | omega) (dg_at (by omega)), _, _, rfl, rfl, ⟨by decide, by decide⟩, _, rfl, sa, _, rfl, .inl (SqL.of hs5), _, _, rfl, rfl, (by rw [List.length_map]; omega), sa, _, _, vc (rd signs (dg d (33 + 3 * i + 1) / 10)), rfl, rfl, SqL.of hs5, at_of (j := dg d (33 + 3 * i + 1) / 10 % signs.length) (by rw [List.length_map]; push_cast; rfl) (rd_at s1), _, _, rfl, rfl, (by rw [S_len, S_len, sl64]; simp), _, rfl, (by show 4 ≤ sizeLine; rw [sl64]; omega), fun q hq => ?_⟩
        rw [S_empty, S_app]
        have e6 := e5.newF hq (o := .lst [.str (S []), vc (rd signs (dg d (33 + 3 * i + 1))), .str (S ([rd signs (dg d (33 + 3 * i + 1))] ++ [rd signs (dg d (33 + 3 * i + 1) / 10)])), vc (rd signs (dg d (33 + 3 * i + 1)))])
        have e6' := (Ext.refl e5.fh).newF hq (o := .lst [.str (S []), vc (rd signs (dg d (33 + 3 * i + 1))), .str (S ([rd signs (dg d (33 + 3 * i + 1))] ++ [rd signs (dg d (33 + 3 * i + 1) / 10)])), vc (rd signs (dg d (33 + 3 * i + 1)))])
        have hLq : L ≠ q := fun e => by subst e; rw [hL5] at hq; cases hq
        have hd6 := e6'.hh _ _ hd5
        have hn6 := e6'.hh _ _ hn5
        have hL6 := e6'.hh _ _ hL5
        have f6 : (upd F5 q (HO.lst [.str (S []), vc (rd signs (dg d (33 + 3 * i + 1))), .str (S ([rd signs (dg d (33 + 3 * i + 1))] ++ [rd signs (dg d (33 + 3 * i + 1) / 10)])), vc (rd signs (dg d (33 + 3 * i + 1)))])) L = none := by rw [upd_ne hLq]; exact f5
        have hending : ([V.str (S []), vc (rd signs (dg d (33 + 3 * i + 1))), .str (S ([rd signs (dg d (33 + 3 * i + 1))] ++ [rd signs (dg d (33 + 3 * i + 1) / 10)])), vc (rd signs (dg d (33 + 3 * i + 1)))] : List V)[dg d (33 + 3 * i) % 4]? = some (.str (S (lawEnding d signs (33 + 3 * i)))) := by
          unfold lawEnding
          have h4 : dg d (33 + 3 * i) % 4 < 4 := Nat.mod_lt _ (by decide)
          generalize dg d (33 + 3 * i) % 4 = z at h4
          have hcase : z = 0 ∨ z = 1 ∨ z = 2 ∨ z = 3 := by omega
          rcases hcase with rfl | rfl | rfl | rfl <;> rfl
        have hqv : (upd H5 q (HO.lst [.str (S []), vc (rd signs (dg d (33 + 3 * i + 1))), .str (S ([rd signs (dg d (33 + 3 * i + 1))] ++ [rd signs (dg d (33 + 3 * i + 1) / 10)])), vc (rd signs (dg d (33 + 3 * i + 1)))])) q = some (HO.lst [.str (S []), vc (rd signs (dg d (33 + 3 * i + 1))), .str (S ([rd signs (dg d (33 + 3 * i + 1))] ++ [rd signs (dg d (33 + 3 * i + 1) / 10)])), vc (rd signs (dg d (33 + 3 * i + 1)))]) := upd_same
        have hlen2 : (lawEnding d signs (33 + 3 * i)).length ≤ 2 := (ending_ok n1 s1 (by rw [← hsigns]; exact lawSigns_sgn d) d (33 + 3 * i)).1
        generalize ([.str (S []), vc (rd signs (dg d (33 + 3 * i + 1))), .str (S ([rd signs (dg d (33 + 3 * i + 1))] ++ [rd signs (dg d (33 + 3 * i + 1) / 10)])), vc (rd signs (dg d (33 + 3 * i + 1)))] : List V) = els at *
        generalize upd F5 q (.lst els) = F6 at *
        generalize upd H5 q (.lst els) = H6 at *
        refine ⟨_, rfl, _, rfl, da, _, _, vn (dg d (33 + 3 * i)), rfl, rfl, SqL.of hd6, at_of (j := 33 + 3 * i) (by first | rfl | omega) (dg_at (by omega)), _, _, rfl, rfl, (by show (0 : Int) < 4; decide), q, _, _, .str (S (lawEnding d signs (33 + 3 * i))), rfl, rfl, SqL.of hqv, at_of (j := dg d (33 + 3 * i) % 4) (by omega) hending, ?_⟩
        -- if k == 0 or draws[at] % 4 < 3
        have stay : ∀ (x10 : Option V), (∃ (y5 y6 y7 y8 y9 y10 : Option V) (F' : Hp) (rvs : List V), [some (V.ref da), some (.ref na), some (.ref sa), some (.ref pa), some (.ref L), some (.int (0 + (i : Nat))), some (.int (33 + 3 * i : Nat)), x7, x8, some (vc (rd signs (dg d (33 + 3 * i + 1)))), some (.str (S (lawEnding d signs (33 + 3 * i))))] =
            [some (.ref da), some (.ref na), some (.ref sa), some (.ref pa), some (.ref L), y5, y6, y7, y8, y9, y10] ∧ Ext F H F' H6 ∧ Same F3 F' ∧ F' L = none ∧ H6 L = some (.lst rvs) ∧ Al rRule F' rvs rules) := fun _ => ⟨_, _, _, _, _, _, F6, rvs, rfl, e6, s5.trans e6'.ff, f6, hL6, al5.mono e6'.ff⟩
        have ins : tDrop (tBM K "list" (fun x vs H Q => ∃ l xs i y, x = V.ref l ∧ vs = [V.int i, y] ∧ H l = some (HO.lst xs) ∧ xs.length < sizeLine ∧ 0 ≤ i ∧ i < 2 ^ 63 ∧ Q V.non (upd H l (HO.lst (List.take i.toNat xs ++ [y] ++ List.drop i.toNat xs)))) (tVar 4)
            (tCons (tOp (L2.rI (fun x j => 0 < j) fun i j => V.int (i % j)) (tOp (rIxL K) (tVar 0) (tOp (rI0 fun i j => V.int (i + j)) (tVar 6) (tC (V.int 2)))) (tOp (rI0 fun i j => V.int (i + j)) (tCB (rLen K) (tCons (tVar 4) tNil)) (tC (V.int 1))))
              (tCons (tTup (tCons (tOp (rIxL K) (tVar 1) (tVar 5)) (tCons (tVar 10) tNil))) tNil)))
            { nx := fun σ H' => ∃ (x5 x6 x7 x8 x9 x10 : Option V) (F' : Hp) (rvs : List V), σ = [some (.ref da), some (.ref na), some (.ref sa), some (.ref pa), some (.ref L), x5, x6, x7, x8, x9, x10] ∧ Ext F H F' H' ∧ Same F3 F' ∧ F' L = none ∧ H' L = some (.lst rvs) ∧
                Al rRule F' rvs (insAt rules (dg d (33 + 3 * i + 2) % (rules.length + 1)) (dg names i, lawEnding d signs (33 + 3 * i))), rt := Q }
            [some (V.ref da), some (.ref na), some (.ref sa), some (.ref pa), some (.ref L), some (.int (0 + (i : Nat))), some (.int (33 + 3 * i : Nat)), x7, x8, some (vc (rd signs (dg d (33 + 3 * i + 1)))), some (.str (S (lawEnding d signs (33 + 3 * i))))] H6 := by
          refine ⟨_, rfl, .inl ⟨rfl, _, SqL.of hL6⟩, _, rfl, _, rfl, _, _, rfl, rfl, da, _, _, vn (dg d (33 + 3 * i + 2)), rfl, rfl, SqL.of hd6, at_of (j := 33 + 3 * i + 2) (by first | rfl | omega) (dg_at (by omega)), _, rfl, L, _, rfl, .inl (SqL.of hL6), _, _, rfl, rfl, _, _, rfl, rfl, by omega, _, rfl, _, rfl, na, _, _, vc (dg names i), rfl, rfl, SqL.of hn6, at_of (j := i) (by omega) (cs_at hi), _, rfl, (by show 2 ≤ sizeLine; rw [sl64]; omega), fun t ht => ?_⟩
          have hrv := al5.len
          have hLt : L ≠ t := fun e => by subst e; rw [hL6] at ht; cases ht
          have e7 := e6.newF ht (o := .tup [vc (dg names i), .str (S (lawEnding d signs (33 + 3 * i)))])
          have e7' := (Ext.refl e6.fh).newF ht (o := .tup [vc (dg names i), .str (S (lawEnding d signs (33 + 3 * i)))])
          have hlt := Nat.mod_lt (dg d (33 + 3 * i + 2)) (show rules.length + 1 > 0 by omega)
          have ez : ((dg d (33 + 3 * i + 2) : Nat) : Int) % (((rvs.length : Nat) : Int) + 1) = ((dg d (33 + 3 * i + 2) % (rules.length + 1) : Nat) : Int) := by rw [hrv]; push_cast; rfl
          refine ⟨L, rvs, _, _, rfl, rfl, by rw [upd_ne hLt]; exact hL6, by rw [hrv, sl64]; omega, by rw [ez]; omega, by rw [ez]; omega, _, _, _, _, _, _, _, _, rfl, e7.set hL0 (by rw [upd_ne hLt]; exact f6), s5.trans (e6'.ff.trans e7'.ff), by rw [upd_ne hLt]; exact f6, upd_same, ?_⟩
          rw [ez, Int.toNat_natCast]
          exact Al.ins _ (al5.mono (e6'.ff.trans e7'.ff)) ⟨t, _, _, rfl, upd_same, rfl, rfl⟩
        show ∃ _, _
        refine ⟨_, rfl, rfl, _, rfl, ?_⟩
        rw [dec_ii]
        have hyes : (i = 0 ∨ dg d (33 + 3 * i) % 4 < 3) → lawEnd d names signs rules i = insAt rules (dg d (33 + 3 * i + 2) % (rules.length + 1)) (dg names i, lawEnding d signs (33 + 3 * i)) := fun h => if_pos h
        by_cases h0 : i = 0
        · rw [decide_eq_true (by omega), hyes (.inl h0)]
          exact iteT (iteT ins)
        · rw [decide_eq_false (by omega)]
          refine iteF ⟨_, rfl, _, rfl, da, _, _, vn (dg d (33 + 3 * i)), rfl, rfl, SqL.of hd6, at_of (j := 33 + 3 * i) (by first | rfl | omega) (dg_at (by omega)), _, _, rfl, rfl, (by show (0 : Int) < 4; decide), _, _, rfl, rfl, _, rfl, ?_⟩
          by_cases h3 : dg d (33 + 3 * i) % 4 < 3
          · rw [decide_eq_true (show ((dg d (33 + 3 * i) : Nat) : Int) % 4 < 3 by omega), hyes (.inr h3)]
            exact iteT ins
          · rw [decide_eq_false (show ¬ ((dg d (33 + 3 * i) : Nat) : Int) % 4 < 3 by omega), show lawEnd d names signs rules i = rules from if_neg (by omega)]
            exact iteF (stay none)
      · rintro σ H6 ⟨x5, x6, x7, x8, x9, x10, F6, rvs, rfl, e6, s6, f6, hL6, al6⟩
        refine ⟨_, rfl, k _ _ H6 (e6.frz hL0 hL6 f6) ⟨L, rvs, rfl, upd_same, ?_⟩⟩
        unfold lawGrammar
        rw [hnames, hsigns]
        exact al6.mono (fun b o hb => by rw [upd_ne (ne_of_none hb f6)]; exact hb)
    · have hd4 := e4.fh _ _ hda3
      refine ⟨_, rfl, da, _, _, vn (dg d (6)), rfl, rfl, SqL.of hd4, at_of (j := 6) (by first | rfl | omega) (dg_at (by omega)), _, _, rfl, rfl, (by show (0 : Int) < 3; decide), rfl, _, rfl, ?_⟩
      rw [dec_ii]
      dsimp only
      by_cases h6 : dg d 6 % 3 = 0
      · rw [decide_eq_true (show ((dg d 6 : Nat) : Int) % 3 = 0 by omega)]
        refine iteT ⟨_, rfl, da, _, _, vn (dg d (7)), rfl, rfl, SqL.of hd4, at_of (j := 7) (by first | rfl | omega) (dg_at (by omega)), _, rfl, _, rfl, F3, dg d 7, _, _, names, signs, rfl, e4.fh, ⟨na, _, rfl, hna3, al_cs names⟩, ⟨sa, _, rfl, hsa3, al_cs signs⟩, n1, s1, fun v F5 H5 e5 hv => ?_⟩
        obtain ⟨ka, kvs, rfl, hka, kal⟩ := hv
        refine ⟨ka, kvs, rfl, .inl (SqL.of (e5.fh _ _ hka)), fun L hL => hD' _ _ ⟨L, none, none, none, none, F5, kvs, rfl, (e4.trans e5).newM hL, e5.ff, (e4.trans e5).free hL, (e4.trans e5).freeF hL, upd_same, ?_⟩⟩
        unfold lawRules0
        rw [if_pos h6]
        exact kal
      · rw [decide_eq_false (show ¬ ((dg d 6 : Nat) : Int) % 3 = 0 by omega)]
        refine iteF ⟨_, rfl, da, _, _, vn (dg d (6)), rfl, rfl, SqL.of hd4, at_of (j := 6) (by first | rfl | omega) (dg_at (by omega)), _, _, rfl, rfl, ⟨by decide, by decide⟩, _, _, rfl, rfl, (by show (0 : Int) < 6; decide), _, rfl, by omega, by omega, ?_⟩
        have en : (((dg d 6 : Nat) : Int) / 3 % 6).toNat = dg d 6 / 3 % 6 := by omega
        rw [en]
        refine for_range (lo := 0) (n := dg d 6 / 3 % 6) (fun i σ H' => ∃ (x5 x6 x7 x8 : Option V) (F' : Hp) (rvs : List V), σ = [some (.ref da), some (.ref na), some (.ref sa), some (.ref pa), some (.ref l), x5, x6, x7, x8, none, none] ∧ Ext F H F' H' ∧ Same F3 F' ∧ F' l = none ∧
          H' l = some (.lst rvs) ∧ Al rRule F' rvs ((List.range i).map fun k => (rd names (dg d (8 + 5 * k)), lawBody d (names ++ signs) (8 + 5 * k)))) ⟨none, none, none, none, F3, [], rfl, e4, Same.refl _, e3.freeF hl, upd_same, .nil⟩ ?_ ?_
        · rintro i σ H5 hi ⟨x5, x6, x7, x8, F5, rvs, rfl, e5, s5, f5, hl5, al5⟩
          have hd5 := e5.fh _ _ (s5 _ _ hda3)
          have hn5 := e5.fh _ _ (s5 _ _ hna3)
          have hp5 := e5.fh _ _ (s5 _ _ hpaF)
          refine ⟨_, rfl, _, _, rfl, rfl, .inr ⟨?_, ?_⟩, _, _, rfl, rfl, ?_⟩
          · omega
          · omega
          dsimp only
          have ea : (8 : Int) + 5 * (0 + (i : Nat)) = ((8 + 5 * i : Nat) : Int) := by omega
          rw [ea]
          refine ⟨_, rfl, _, rfl, _, _, rfl, rfl, da, _, _, vn (dg d (8 + 5 * i + 1)), rfl, rfl, SqL.of hd5, at_of (j := 8 + 5 * i + 1) (by first | rfl | omega) (dg_at (by omega)), _, _, rfl, rfl, (by show (0 : Int) < 4; decide), _, rfl, by omega, by omega, ?_⟩
          have en2 : (((dg d (8 + 5 * i + 1) : Nat) : Int) % 4).toNat = dg d (8 + 5 * i + 1) % 4 := by omega
          rw [en2, S_empty]
          refine for_range (lo := 0) (n := dg d (8 + 5 * i + 1) % 4) (fun j σ H' => ∃ x8 : Option V, σ = [some (.ref da), some (.ref na), some (.ref sa), some (.ref pa), some (.ref l), some (.int (0 + (i : Nat))), some (.int (8 + 5 * i : Nat)), some (.str (S ((List.range j).map fun j => rd (names ++ signs) (dg d (8 + 5 * i + 2 + j))))), x8, none, none] ∧ H' = H5) ⟨x8, rfl, rfl⟩ ?_ ?_
          · rintro j σ H6 hj ⟨x8, rfl, rfl⟩
            have hlen : 1 ≤ (names ++ signs).length := by rw [List.length_append]; omega
            refine ⟨_, rfl, _, rfl, _, rfl, _, rfl, _, _, rfl, rfl, _, rfl, _, _, rfl, rfl, da, _, _, vn (dg d (8 + 5 * i + 2 + j)), rfl, rfl, SqL.of hd5, at_of (j := 8 + 5 * i + 2 + j) (by first | rfl | omega) (dg_at (by omega)), _, rfl, pa, _, rfl, .inl (SqL.of hp5), _, _, rfl, rfl, (by rw [List.length_map]; omega), pa, _, _, vc (rd (names ++ signs) (dg d (8 + 5 * i + 2 + j))), rfl, rfl, SqL.of hp5, at_of (j := dg d (8 + 5 * i + 2 + j) % (names ++ signs).length) (by rw [List.length_map]; omega) (rd_at hlen), _, _, rfl, rfl, ?_, ?_⟩
            · rw [S_len, S_len, List.length_map, List.length_range, sl64]
              show j + 1 ≤ _
              omega
            · rw [S_app]
              refine ⟨some (.int (0 + (j : Nat))), ?_, rfl⟩
              rw [List.range_succ, List.map_append]
              rfl
          · rintro σ H6 ⟨x8, rfl, rfl⟩
            refine ⟨_, rfl, .inl ⟨rfl, _, SqL.of hl5⟩, _, rfl, _, rfl, _, rfl, da, _, _, vn (dg d (8 + 5 * i)), rfl, rfl, SqL.of hd5, at_of (j := 8 + 5 * i) (by first | rfl | omega) (dg_at (by omega)), _, rfl, na, _, rfl, .inl (SqL.of hn5), _, _, rfl, rfl, (by rw [List.length_map]; omega), na, _, _, vc (rd names (dg d (8 + 5 * i))), rfl, rfl, SqL.of hn5, at_of (j := dg d (8 + 5 * i) % names.length) (by rw [List.length_map]; omega) (rd_at n1), _, rfl, (by show 2 ≤ sizeLine; rw [sl64]; omega), fun t ht => ?_⟩
            have hlt : l ≠ t := fun e => by subst e; rw [hl5] at ht; cases ht
            have e6 := e5.newF ht (o := .tup [vc (rd names (dg d (8 + 5 * i))), .str (S (lawBody d (names ++ signs) (8 + 5 * i)))])
            have e6' := (Ext.refl e5.fh).newF ht (o := .tup [vc (rd names (dg d (8 + 5 * i))), .str (S (lawBody d (names ++ signs) (8 + 5 * i)))])
            refine ⟨l, rvs, _, rfl, rfl, by rw [upd_ne hlt]; exact hl5, by have := al5.len; rw [List.length_map, List.length_range] at this; rw [sl64]; omega, _, _, _, _, _, _, rfl, e6.set hl0 (by rw [upd_ne hlt]; exact f5), s5.trans e6'.ff, by rw [upd_ne hlt]; exact f5, upd_same, ?_⟩
            rw [List.range_succ, List.map_append]
            exact (al5.mono e6'.ff).snoc ⟨t, _, _, rfl, upd_same, rfl, rfl⟩
        · rintro σ H6 ⟨x5, x6, x7, x8, F6, rvs, rfl, e6, s6, f6, hl6, al6⟩
          refine hD' _ _ ⟨l, x5, x6, x7, x8, F6, rvs, rfl, e6, s6, hl0, f6, hl6, ?_⟩
          unfold lawRules0
          rw [if_neg h6]
          exact al6
end
end SF
namespace SF
open PySem PySem.Spec PyProof.Rows L2
theorem lt_rev (a b : List Nat) : (!decide ((S b).cps.toList < (S a).cps.toList)) = !decide (b < a) := by rw [S_cps, S_cps]
theorem o_leS : O2 qS qS (fun x y H Q => ∃ i j, x = .str i ∧ y = .str j ∧ Q (.bl (!decide (j.cps.toList < i.cps.toList))) H) (fun x y => !decide (y < x)) := fun {F v u x y H Q} h1 h2 q => ⟨_, _, h1.1, h2.1, (congrArg (fun b => Q (V.bl b) H) (lt_rev x y)).mpr q⟩
/-! ### tables -/
structure TBnd (t : Tab) : Prop where
  p : t.pairs.length ≤ 1000
  p1 : ∀ q ∈ t.pairs, q.1.length ≤ 1000 ∧ q.2.length ≤ 1000
  n : t.numbers.length ≤ 1000
  v : t.vanishing.length ≤ 1000
  b : t.byName.length ≤ 1000
  b1 : ∀ q ∈ t.byName, q.2.length ≤ 1000
def rTb (C : Addr) : Rl Tab := fun F v t => rTab C F v t ∧ TBnd t
instance {C : Addr} : Mono (rTb C) := ⟨fun s h => ⟨Mono.mono s h.1, h.2⟩⟩
theorem sz1000 {n : Nat} (h : n ≤ 1000) : n ≤ sizeLine := by rw [sl64]; omega
theorem Al.imp {α : Type} {r s : Rl α} {F : Hp} : ∀ {vs : List V} {xs : List α}, Al r F vs xs → (∀ v x, x ∈ xs → r F v x → s F v x) → Al s F vs xs
  | _, _, .nil, _ => .nil
  | _, _, .cons h t, k => .cons (k _ _ List.mem_cons_self h) (Al.imp t fun v x hx => k v x (List.mem_cons_of_mem _ hx))
theorem AD.imp {κ κ' α : Type} {enc : κ → κ'} {r s : Rl α} {F : Hp} : ∀ {kvs : List (κ' × V)} {m : List (κ × α)}, Paired (fun (kv : κ' × V) (x : κ × α) => kv.1 = enc x.1 ∧ r F kv.2 x.2) kvs m → (∀ v x, x ∈ m → r F v x.2 → s F v x.2) → Paired (fun (kv : κ' × V) (x : κ × α) => kv.1 = enc x.1 ∧ s F kv.2 x.2) kvs m
  | _, _, .nil, _ => .nil
  | _, _, .cons h t, k => .cons ⟨h.1, k _ _ List.mem_cons_self h.2⟩ (AD.imp t fun v x hx => k v x (List.mem_cons_of_mem _ hx))
theorem pairs_up {F : Hp} {v : V} {xs : List Pair} (h : rL (rP rS rS) F v xs) (h1 : xs.length ≤ 1000) (h2 : ∀ q ∈ xs, q.1.length ≤ 1000 ∧ q.2.length ≤ 1000) : qL (rP qS qS) F v xs := by
  obtain ⟨a, vs, e, h0, al⟩ := h
  refine ⟨a, vs, e, h0, al.imp fun v x hx ⟨b, u, w, e, g0, g1, g2⟩ => ?_, sz1000 h1⟩
  obtain ⟨l1, l2⟩ := h2 x hx
  exact ⟨b, u, w, e, g0, ⟨g1, sz1000 l1⟩, ⟨g2, sz1000 l2⟩⟩
section
variable {C : Addr}
theorem tb_meth {mn : Str} (h1 : ¬ mn = "pairs" := by decide) (h2 : ¬ mn = "numbers" := by decide) (h3 : ¬ mn = "vanishing" := by decide) (h4 : ¬ mn = "by_name" := by decide) : ∀ (F : Hp) (v : V) (x : Tab), rTb C F v x → ∃ a dx fs, v = .ref a ∧ F a = some (.ins C dx fs) ∧ List.lookup mn fs = none := by
  rintro F v x ⟨⟨p, dx, pa, na, va, ba, e, h0, _⟩, _⟩
  refine ⟨p, dx, _, e, h0, ?_⟩
  rw [look_ne h1, look_ne h2, look_ne h3, look_ne h4]; rfl
theorem tb_pairs (F : Hp) (v : V) (x : Tab) (h : rTb C F v x) : ∃ a dx fs u, v = .ref a ∧ F a = some (.ins C dx fs) ∧ List.lookup ("pairs" : Str) fs = some u ∧ qL (rP qS qS) F u x.pairs := by
  obtain ⟨⟨p, dx, pa, na, va, ba, e, h0, h1, h2, h3, h4⟩, b⟩ := h
  exact ⟨p, dx, _, _, e, h0, look_eq, pairs_up h1 b.p b.p1⟩
theorem nats_up {F : Hp} {v : V} {xs : List Nat} (h : rL rNat F v xs) (h1 : xs.length ≤ 1000) : qL rNat F v xs := by
  obtain ⟨a, vs, e, h0, al⟩ := h
  exact ⟨a, vs, e, h0, al, sz1000 h1⟩
theorem tb_numbers (F : Hp) (v : V) (x : Tab) (h : rTb C F v x) : ∃ a dx fs u, v = .ref a ∧ F a = some (.ins C dx fs) ∧ List.lookup ("numbers" : Str) fs = some u ∧ qL rNat F u x.numbers := by
  obtain ⟨⟨p, dx, pa, na, va, ba, e, h0, h1, h2, h3, h4⟩, b⟩ := h
  exact ⟨p, dx, _, _, e, h0, by rw [look_ne (by decide), look_eq], nats_up h2 b.n⟩
theorem tb_vanishing (F : Hp) (v : V) (x : Tab) (h : rTb C F v x) : ∃ a dx fs u, v = .ref a ∧ F a = some (.ins C dx fs) ∧ List.lookup ("vanishing" : Str) fs = some u ∧ qD encN rB F u x.vanishing := by
  obtain ⟨⟨p, dx, pa, na, va, ba, e, h0, h1, h2, ⟨d, kvs, e3, g, ad⟩, h4⟩, b⟩ := h
  exact ⟨p, dx, _, _, e, h0, by rw [look_ne (by decide), look_ne (by decide), look_eq], d, kvs, e3, g, ad, sz1000 b.v⟩
theorem tb_byName (F : Hp) (v : V) (x : Tab) (h : rTb C F v x) : ∃ a dx fs u, v = .ref a ∧ F a = some (.ins C dx fs) ∧ List.lookup ("by_name" : Str) fs = some u ∧ qD encS' (qL rNat) F u x.byName := by
  obtain ⟨⟨p, dx, pa, na, va, ba, e, h0, h1, h2, h3, ⟨d, kvs, e3, g, ad⟩⟩, b⟩ := h
  exact ⟨p, dx, _, _, e, h0, by rw [look_ne (by decide), look_ne (by decide), look_ne (by decide), look_eq], d, kvs, e3, g, AD.imp ad fun v x hx h => nats_up h (b.b1 x hx), sz1000 b.b⟩
end
/-! ### columns -/
abbrev Item : Type := Nat × Nat × Nat
structure Col where
  reasons : List (Item × Unit)
  waiting : List (List Nat × List Item)
abbrev rItem : Rl Item := qT3 rNat rNat rNat
abbrev encItem : Item → List Key := encT3 encU encU encU
def rCol (C : Addr) : Rl Col := fun F v c => ∃ p dx ra wa, v = .ref p ∧ F p = some (.ins C dx [("reasons", .ref ra), ("waiting", .ref wa)]) ∧ qDT (encT3 encU encU encU) qX F (.ref ra) c.reasons ∧ qD encS' (qL (qT3 rNat rNat rNat)) F (.ref wa) c.waiting
instance {C : Addr} : Mono (rCol C) := ⟨fun s h => by
  obtain ⟨p, dx, ra, wa, e, h0, h1, h2⟩ := h
  exact ⟨p, dx, ra, wa, e, s _ _ h0, Mono.mono s h1, Mono.mono s h2⟩⟩
section
variable {C : Addr}
theorem col_reasons (F : Hp) (v : V) (x : Col) (h : rCol C F v x) : ∃ a dx fs u, v = .ref a ∧ F a = some (.ins C dx fs) ∧ List.lookup ("reasons" : Str) fs = some u ∧ qDT (encT3 encU encU encU) qX F u x.reasons := by
  obtain ⟨p, dx, ra, wa, e, h0, h1, h2⟩ := h
  exact ⟨p, dx, _, _, e, h0, look_eq, h1⟩
theorem col_waiting (F : Hp) (v : V) (x : Col) (h : rCol C F v x) : ∃ a dx fs u, v = .ref a ∧ F a = some (.ins C dx fs) ∧ List.lookup ("waiting" : Str) fs = some u ∧ qD encS' (qL (qT3 rNat rNat rNat)) F u x.waiting := by
  obtain ⟨p, dx, ra, wa, e, h0, h1, h2⟩ := h
  exact ⟨p, dx, _, _, e, h0, by rw [look_ne (by decide), look_eq], h2⟩
end
/-! ### grammars -/
structure GBnd (g : Gram) : Prop where
  f : TBnd g.fwd
  b : TBnd g.bwd
  r : g.rules.length ≤ 1000 ∧ ∀ r ∈ g.rules, r.2.length ≤ 1000
  u : g.useful.length ≤ 1000
def rGr (G C : Addr) : Rl Gram := fun F v g => rGram G C F v g ∧ GBnd g
instance {G C : Addr} : Mono (rGr G C) := ⟨fun s h => ⟨Mono.mono s h.1, h.2⟩⟩
section
variable {G C : Addr}
theorem gr_forward (F : Hp) (v : V) (x : Gram) (h : rGr G C F v x) : ∃ a dx fs u, v = .ref a ∧ F a = some (.ins G dx fs) ∧ List.lookup ("forward" : Str) fs = some u ∧ rTb C F u x.fwd := by
  obtain ⟨⟨p, dx, u0, u2, u3, u4, u5, e, h0, h1, h2, h3, h4, h5⟩, b⟩ := h
  exact ⟨p, dx, _, _, e, h0, by rw [look_ne (by decide), look_ne (by decide), look_ne (by decide), look_ne (by decide), look_eq], h4, b.f⟩
theorem gr_backward (F : Hp) (v : V) (x : Gram) (h : rGr G C F v x) : ∃ a dx fs u, v = .ref a ∧ F a = some (.ins G dx fs) ∧ List.lookup ("backward" : Str) fs = some u ∧ rTb C F u x.bwd := by
  obtain ⟨⟨p, dx, u0, u2, u3, u4, u5, e, h0, h1, h2, h3, h4, h5⟩, b⟩ := h
  exact ⟨p, dx, _, _, e, h0, by rw [look_ne (by decide), look_ne (by decide), look_ne (by decide), look_ne (by decide), look_ne (by decide), look_eq], h5, b.b⟩
theorem gr_root (F : Hp) (v : V) (x : Gram) (h : rGr G C F v x) : ∃ a dx fs u, v = .ref a ∧ F a = some (.ins G dx fs) ∧ List.lookup ("root" : Str) fs = some u ∧ rC F u x.root := by
  obtain ⟨⟨p, dx, u0, u2, u3, u4, u5, e, h0, h1, h2, h3, h4, h5⟩, b⟩ := h
  exact ⟨p, dx, _, _, e, h0, by rw [look_ne (by decide), look_eq], rfl⟩
theorem gr_rules (F : Hp) (v : V) (x : Gram) (h : rGr G C F v x) : ∃ a dx fs u, v = .ref a ∧ F a = some (.ins G dx fs) ∧ List.lookup ("_rules" : Str) fs = some u ∧ qL (rP rC qS) F u x.rules := by
  obtain ⟨⟨p, dx, u0, u2, u3, u4, u5, e, h0, h1, h2, h3, h4, h5⟩, b⟩ := h
  refine ⟨p, dx, _, _, e, h0, look_eq, ?_⟩
  obtain ⟨a, vs, e1, g0, al⟩ := h1
  refine ⟨a, vs, e1, g0, al.imp fun v x hx ⟨b1, u, w, e, q0, q1, q2⟩ => ?_, sz1000 b.r.1⟩
  exact ⟨b1, u, w, e, q0, q1, ⟨q2, sz1000 (b.r.2 x hx)⟩⟩
theorem gr_useful (F : Hp) (v : V) (x : Gram) (h : rGr G C F v x) : ∃ a dx fs u, v = .ref a ∧ F a = some (.ins G dx fs) ∧ List.lookup ("_useful" : Str) fs = some u ∧ qL rNat F u x.useful := by
  obtain ⟨⟨p, dx, u0, u2, u3, u4, u5, e, h0, h1, h2, h3, h4, h5⟩, b⟩ := h
  exact ⟨p, dx, _, _, e, h0, by rw [look_ne (by decide), look_ne (by decide), look_eq], nats_up h2 b.u⟩
theorem gr_meth {mn : Str} (h1 : ¬ mn = "_rules" := by decide) (h2 : ¬ mn = "root" := by decide) (h3 : ¬ mn = "_useful" := by decide) (h4 : ¬ mn = "_best" := by decide) (h5 : ¬ mn = "forward" := by decide) (h6 : ¬ mn = "backward" := by decide) : ∀ (F : Hp) (v : V) (x : Gram), rGr G C F v x → ∃ a dx fs, v = .ref a ∧ F a = some (.ins G dx fs) ∧ List.lookup mn fs = none := by
  rintro F v x ⟨⟨p, dx, u0, u2, u3, u4, u5, e, h0, _⟩, _⟩
  refine ⟨p, dx, _, e, h0, ?_⟩
  rw [look_ne h1, look_ne h2, look_ne h3, look_ne h4, look_ne h5, look_ne h6]; rfl
theorem gr_at (F : Hp) (v : V) (x : Gram) (h : rGr G C F v x) : ∃ a dx fs, v = .ref a ∧ F a = some (.ins G dx fs) := by
  obtain ⟨⟨p, dx, u0, u2, u3, u4, u5, e, h0, _⟩, _⟩ := h
  exact ⟨p, dx, _, e, h0⟩
end
end SF
/-! ### the promises of the older walks, as computations -/
namespace SF
open PySem PySem.Spec PyProof.Rows L2
/-- the script -/
def scr (K : PySem.W.Frag) : R3 (List Int) := fun _ _ H v xs => ∃ a, v = .ref a ∧ SqL K H a (xs.map V.int)
theorem sql_up {K : PySem.W.Frag} {H H1 : Hp} {a : Addr} {xs : List V} (h : SqL K H a xs) (s : Same H H1) : SqL K H1 a xs := by
  rcases h with h | h
  · rcases h with h | ⟨o, h⟩
    · exact .inl (.inl (s _ _ h))
    · exact .inl (.inr ⟨o, s _ _ h⟩)
  · exact .inr h
instance {K : PySem.W.Frag} : Dn (scr K) := ⟨fun _ h => h⟩
instance {K : PySem.W.Frag} : Up (scr K) := ⟨fun e h => by obtain ⟨a, e1, h1⟩ := h; exact ⟨a, e1, sql_up h1 e.hh⟩⟩
instance {K : PySem.W.Frag} : Fl (scr K) := ⟨fun h => h⟩
theorem gd_po {β : Type} {c : Cxt β} {p : Prop} {i : Decidable p} {m : M β} (h : Po c (@M.gd _ p i m)) : p ∧ Po c m := by
  unfold M.gd at h
  split at h
  · rename_i q; exact ⟨q, h⟩
  · exact h.elim
theorem rules_up {F : Hp} {v : V} {xs : List Rule} (h : rL rRule F v xs) (h1 : xs.length ≤ 1000) (h2 : ∀ q ∈ xs, q.2.length ≤ 1000) : qL (rP rC qS) F v xs := by
  obtain ⟨a, vs, e, h0, al⟩ := h
  refine ⟨a, vs, e, h0, al.imp fun v x hx ⟨b, u, w, e, g0, g1, g2⟩ => ?_, sz1000 h1⟩
  exact ⟨b, u, w, e, g0, g1, ⟨g2, sz1000 (h2 x hx)⟩⟩
theorem al_down {F : Hp} {vs : List V} {xs : List Rule} (h : Al (rP rC qS) F vs xs) : Al rRule F vs xs := h.imp fun v x _ ⟨b, u, w, e, g0, g1, g2⟩ => ⟨b, u, w, e, g0, g1, g2.1⟩
theorem al_up {F : Hp} {vs : List V} {xs : List Rule} (h : Al rRule F vs xs) (h2 : ∀ q ∈ xs, q.2.length ≤ 1000) : Al (rP rC qS) F vs xs := h.imp fun v x hx ⟨b, u, w, e, g0, g1, g2⟩ => ⟨b, u, w, e, g0, g1, ⟨g2, sz1000 (h2 x hx)⟩⟩
theorem nats_down {F : Hp} {v : V} {xs : List Nat} (h : qL rNat F v xs) : rL rNat F v xs := by
  obtain ⟨a, vs, e, h0, al, _⟩ := h
  exact ⟨a, vs, e, h0, al⟩
theorem rules_down {F : Hp} {v : V} {xs : List Rule} (h : qL (rP rC qS) F v xs) : rL rRule F v xs := by
  obtain ⟨a, vs, e, h0, al, _⟩ := h
  exact ⟨a, vs, e, h0, al_down al⟩
theorem cs_up {F : Hp} {v : V} {xs : List Nat} (h : rL rC F v xs) (h1 : xs.length ≤ 1000) : qL rC F v xs := by
  obtain ⟨a, vs, e, h0, al⟩ := h
  exact ⟨a, vs, e, h0, al, sz1000 h1⟩
@[irreducible] def w_cell (s : List Int) (k : Nat) : M Int := .ok (s[k]?.getD 0)
@[irreducible] def w_draws (c : Int) (n : Nat) : M (List Nat) := M.gd (n ≤ 1000) (.ok (draws c n))
@[irreducible] def w_names (d : List Nat) : M (List Nat) := M.gd (42 ≤ d.length ∧ ∀ x ∈ d, x < 100) (.ok (lawNames d))
@[irreducible] def w_signs (d : List Nat) : M (List Nat) := M.gd (42 ≤ d.length ∧ ∀ x ∈ d, x < 100) (.ok (lawSigns d))
@[irreducible] def w_grammar (d : List Nat) : M (List Rule) := M.gd (42 ≤ d.length ∧ ∀ x ∈ d, x < 100) (.ok (lawGrammar d))
@[irreducible] def w_rules (g : Gram) : M (List Rule) := .ok g.rules
@[irreducible] def w_useful (g : Gram) : M (List Nat) := .ok g.useful
@[irreducible] def w_isnum (_ : Nat) : M Bool := .ok true
@[irreducible] noncomputable def w_Grammar (rules : List Rule) (root : Nat) : M Gram := @M.gd _ ((Gram.mk rules root).Ok ∧ GBnd ⟨rules, root⟩) (Classical.propDecidable _) (.ok ⟨rules, root⟩)
abbrev cl0 : Nat → Addr := fun _ => 0
section
variable {P : Program} {w : World} {K : PySem.W.Frag} {mg : Str → Option Value} {base : Heap} {a : Ad}
theorem ok_w_cell (T : Txt K mg a) : FnOk P w K mg base CX0 1 a._law_cell a.d__law_cell ["_law_script", "_law_k"] (Pm False cl0 (rac (scr K) (rac (fz rNat) ran)) (fz rI) (fun x => w_cell x.1 x.2.1)) :=
  ((ok_cell T).mono (by decide)).imp fun vs H Q E h => by
    obtain ⟨F, ⟨s, k, u⟩, sF, ⟨v1, us1, rfl, ⟨b, rfl, hs⟩, v2, us2, rfl, h2, rfl⟩, h⟩ := h
    unfold w_cell at h
    exact ⟨b, s, k, by rw [show v2 = _ from h2], hs, h _ F H (Xt.refl sF) rfl⟩
theorem ok_w_draws (T : Txt K mg a) : FnOk P w K mg base CX0 1 a._law_draws a.d__law_draws ["_law_cell_here", "_law_many"] (Pm False cl0 (rac (fz rI) (rac (fz rNat) ran)) (fz (qL rNat)) (fun x => w_draws x.1 x.2.1)) :=
  ((ok_draws T).mono (by decide)).imp fun vs H Q E h => by
    obtain ⟨F, ⟨c, n, u⟩, sF, ⟨v1, us1, rfl, h1, v2, us2, rfl, h2, rfl⟩, h⟩ := h
    unfold w_draws at h
    obtain ⟨hn, h⟩ := gd_po h
    exact ⟨F, c, n, by rw [show v1 = _ from h1, show v2 = _ from h2], hn, sF, fun v F' H' e r => h v F' H' e.w (nats_up r (by rw [draws_len]; exact hn))⟩
theorem ok_w_names (T : Txt K mg a) : FnOk P w K mg base CX0 1 a._law_names a.d__law_names ["_law_draws_here"] (Pm False cl0 (rac (fz (qL rNat)) ran) (fz (qL rC)) (fun x => w_names x.1)) :=
  ((ok_names T).mono (by decide)).imp fun vs H Q E h => by
    obtain ⟨F, ⟨d, u⟩, sF, ⟨v1, us1, rfl, h1, rfl⟩, h⟩ := h
    unfold w_names at h
    obtain ⟨hn, h⟩ := gd_po h
    exact ⟨F, v1, d, rfl, sF, nats_down h1, hn.1, hn.2, fun v F' H' e r => h v F' H' e.w (cs_up r (by have := lawNames_len d; show (lawNames d).length ≤ 1000; omega))⟩
theorem ok_w_signs (T : Txt K mg a) : FnOk P w K mg base CX0 1 a._law_signs a.d__law_signs ["_law_draws_here"] (Pm False cl0 (rac (fz (qL rNat)) ran) (fz (qL rC)) (fun x => w_signs x.1)) :=
  ((ok_signs T).mono (by decide)).imp fun vs H Q E h => by
    obtain ⟨F, ⟨d, u⟩, sF, ⟨v1, us1, rfl, h1, rfl⟩, h⟩ := h
    unfold w_signs at h
    obtain ⟨hn, h⟩ := gd_po h
    exact ⟨F, v1, d, rfl, sF, nats_down h1, hn.1, hn.2, fun v F' H' e r => h v F' H' e.w (cs_up r (by have := lawSigns_len d; show (lawSigns d).length ≤ 1000; omega))⟩
theorem ok_w_grammar (T : Txt K mg a) : FnOk P w K mg base CX0 2 a._law_grammar a.d__law_grammar ["_law_draws_here"] (Pm False cl0 (rac (fz (qL rNat)) ran) (fz (qL (rP rC qS))) (fun x => w_grammar x.1)) :=
  ((ok_grammar T).mono (by decide)).imp fun vs H Q E h => by
    obtain ⟨F, ⟨d, u⟩, sF, ⟨v1, us1, rfl, h1, rfl⟩, h⟩ := h
    unfold w_grammar at h
    obtain ⟨hn, h⟩ := gd_po h
    have hd := lawGrammar_ok d
    have hr := hd.1.rok (lawNames_nam d)
    exact ⟨F, v1, d, rfl, sF, nats_down h1, hn.1, hn.2, fun v F' H' e r => h v F' H' e.w (rules_up r (by show (lawGrammar d).length ≤ 1000; omega) fun q hq => by have := (hr q hq).2.1; omega)⟩
theorem ok_w_rules (T : Txt K mg a) : FnOk P w K mg base CX0 1 a.Grammar_rules a.d_Grammar_rules ["self"] (Pm False cl0 (rac (fz (rGr a.Grammar a.Table)) ran) (nw (rP rC qS)) (fun x => w_rules x.1)) :=
  ((ok_rules T).mono (by decide)).imp fun vs H Q E h => by
    obtain ⟨F, ⟨g, u⟩, sF, ⟨v1, us1, rfl, h1, rfl⟩, h⟩ := h
    unfold w_rules at h
    obtain ⟨hg, hb⟩ := h1
    exact ⟨F, v1, g, rfl, sF, hg, fun l rvs hl al => h _ F _ ((Xt.refl sF).newM hl) ⟨l, rvs, rfl, hl, sF.free hl, upd_same, al_up al hb.r.2, sz1000 hb.r.1⟩⟩
theorem e_mkGrK {w : Xw} {σ : L2.St} {F H : Hp} {ta tb : TE} {m : M (List Rule)} {n : M Nat} {E' : XK} (ha : EvC w (ta σ) (lb (rP rC qS)) m F H) (hb : EvC w (tb σ) (fz rC) n F H) :
    EvC w (tMakeK a.Grammar 1 1 (sp_Grammar a.Grammar a.Table) (fun vs zs => vs ++ zs) E' (tCons ta tNil) (tCons tb tNil) σ) (fz (rGr a.Grammar a.Table)) (m.bd fun x => n.bd fun y => w_Grammar x y) F H := by
  refine EvC.bind (D := fun (v : V) H (Q : VK) => tb σ H fun u H2 => [v].length = 1 ∧ [u].length = 1 ∧ ∀ x dx, H2 x = none → H2 dx = none → dx ≠ x → sp_Grammar a.Grammar a.Table (.ref x :: [v] ++ [u]) (upd (upd H2 dx (.own x)) x (.ins a.Grammar dx [])) (fun v H3 => v = .non ∧ Q (.ref x) H3) E') (R' := fz (rGr a.Grammar a.Table)) ha fun x v F1 H1 F2 H2 e1 e2 hr => ?_
  refine EvC.last (D := fun (u : V) H2 (Q : VK) => [v].length = 1 ∧ [u].length = 1 ∧ ∀ x dx, H2 x = none → H2 dx = none → dx ≠ x → sp_Grammar a.Grammar a.Table (.ref x :: [v] ++ [u]) (upd (upd H2 dx (.own x)) x (.ins a.Grammar dx [])) (fun v H3 => v = .non ∧ Q (.ref x) H3) E') (R' := fz (rGr a.Grammar a.Table)) (hb.up (e1.trans e2)) (fun _ => by unfold w_Grammar; exact @gd_or _ _ (Classical.propDecidable _) _) (fun y z u F3 H3 F4 H4 hz e3 e4 hs Q q => ?_) F2 H2 (Xt.refl e2.fh)
  unfold w_Grammar at hz
  obtain ⟨⟨hok, hbd⟩, rfl⟩ := @gd_ok _ _ (Classical.propDecidable _) _ _ hz
  refine ⟨rfl, rfl, fun p dx hp hdx hne => ?_⟩
  obtain ⟨la, rvs, rfl, hla, al, _⟩ := hr
  have e34 := e3.trans e4
  have hla4 := e34.hh _ _ hla
  have e5 := (Xt.refl e4.fh).newM hdx (o := .own p)
  refine ⟨F4, upd H4 dx (.own p), p, dx, la, u, rvs, ⟨x, y⟩, rfl, by rw [upd_ne hne.symm]; exact hp, rfl, e5.fh, e5.hh _ _ hla4, al_down (al.mono e34.ff), .inr hs, hok, fun F' H' e h => ⟨rfl, q _ _ _ (e5.trans e.w) ⟨h, hbd⟩⟩⟩
theorem e_isname {w : Xw} {σ : L2.St} {F H : Hp} {ta : TE} {m : M (List Nat)} {E' : XK} (ha : EvC w (ta σ) (fz qS) m F H) : EvC w (tCall sp_is_name [] E' (tCons ta tNil) σ) (fz rB) (m.bd fun x => .ok (isName x)) F H :=
  EvC.last (D := fun (v : V) H (Q : VK) => sp_is_name ([v] ++ []) H Q E') (R' := fz rB) ha (fun _ => .inl ⟨_, rfl⟩) fun x y v F1 H1 F2 H2 hz e1 e2 hr Q q => by
    cases hz
    exact ⟨x, by rw [hr.1]; rfl, hr.2, q _ _ _ (Xt.refl e2.fh) rfl⟩
theorem kw_Grammar (T : Txt K mg a) : KBn K a.d_Grammar___init__ ["self", "rules", "root"] 2 ["root"] (fun us ws => us ++ ws) (fun vs zs => vs ++ zs) := by
  obtain ⟨mv, h⟩ := T.f_Grammar___init__.kbinds0 (ps := ["self", "rules", "root"]) 2 ["root"] [] (fun us _ ws => us ++ ws) (by simp) (by simp) (fun r1 _ r3 => r1.append r3)
    (fun D doc pm an cdv ct us mv ws l1 l2 l3 => match us, mv, ws, l1, l2, l3 with | [_, _], [], [_], _, _, _ => rfl)
  exact h
end
end SF
namespace SF
open PySem PySem.Spec PyProof.Rows L2
theorem up_lo (c : Nat) : (!decide ((S [c]).cps.toList < (Str.ofString "A").cps.toList)) = decide (65 ≤ c) := by
  have e1 : (Str.ofString "A").cps.toList = [65] := by decide +kernel
  rw [e1, S_cps]
  by_cases h : c < 65
  · rw [decide_eq_false (show ¬ 65 ≤ c by omega)]
    simp [List.cons_lt_cons_iff, h]
  · rw [decide_eq_true (show 65 ≤ c by omega)]
    simp [List.cons_lt_cons_iff]
    omega
theorem up_hi (c : Nat) : (!decide ((Str.ofString "Z").cps.toList < (S [c]).cps.toList)) = decide (c ≤ 90) := by
  have e1 : (Str.ofString "Z").cps.toList = [90] := by decide +kernel
  rw [e1, S_cps]
  by_cases h : 90 < c
  · rw [decide_eq_false (show ¬ c ≤ 90 by omega)]
    simp [List.cons_lt_cons_iff, h]
  · rw [decide_eq_true (show c ≤ 90 by omega)]
    simp [List.cons_lt_cons_iff]
    omega
def sp_useful (G C : Addr) : Sp := fun vs H Q _ => ∃ (F : Hp) (v : V) (g : Gram), vs = [v] ∧ Same F H ∧ rGram G C F v g ∧ ∀ l, H l = none → Q (.ref l) (upd H l (.lst (g.useful.map vn)))
def sp_live : Sp := fun vs H Q _ => ∃ (F : Hp) (b : List Nat) (l : Addr) (names : List Nat), vs = [.str (S b), .ref l] ∧ Same F H ∧ H l = some (.lst (names.map vc)) ∧ b.length ≤ 1000 ∧ ∀ F' H', Ext F H F' H' → Q (.bl (liveB names b)) H'
section
variable {P : Program} {w : World} {K : PySem.W.Frag} {mg : Str → Option Value} {base : Heap} {a : Ad}
theorem ok_useful (T : Txt K mg a) : FnOk P w K mg base CX0 1 a.Grammar_useful a.d_Grammar_useful ["self"] (sp_useful a.Grammar a.Table) := by
  refine T.f_Grammar_useful.ok sc_Grammar_useful (fun vs H Q E h => ?_) (fun cdv A outer s H vs Q E hr h => ?_)
  · obtain ⟨F, v, g, rfl, _⟩ := h; rfl
  · obtain ⟨F, v, g, rfl, sF, ⟨p, dx, u0, u2, u3, u4, u5, rfl, hp, _, ⟨la, uvs, rfl, hla, ual⟩, _⟩, k⟩ := h
    refine ⟨_, (pss_one (ps_ret (pe_callTy (call_listK (K := K)) (by rfl) T.z_list (by decide +kernel) (pa_cons (pe_fldK (K := K) (pv 0)) pa_nil)))), ?_⟩
    have huv : uvs = g.useful.map vn := by rw [ual.nats, List.map_map]; rfl
    subst huv
    exact ⟨_, rfl, p, _, dx, _, _, rfl, sF _ _ hp, T.k_Grammar, T.na_Grammar__useful, (by repeat (first | exact look_eq | exact look_nil | rw [look_ne (by decide)])), la, _, rfl, .inl (SqL.of (sF _ _ hla)), fun l hl => k l hl⟩
theorem ok_live (T : Txt K mg a) : FnOk P w K mg base CX0 1 a._law_live a.d__law_live ["_law_body", "_law_names_here"] sp_live := by
  refine T.f__law_live.ok sc__law_live (fun vs H Q E h => ?_) (fun cdv A outer s H vs Q E hr h => ?_)
  · obtain ⟨F, b, l, names, rfl, _⟩ := h; rfl
  · obtain ⟨F, b, l, names, rfl, sF, hl, hb, k⟩ := h
    refine ⟨_, (pss_one (ps_ret (pe_callB (cr_allK (K := K) (by rfl)) (by rfl) T.z_all (by decide +kernel) (pa_cons (pe_lc (own := [("_law_part", 2)]) (g := gName 2) (by rfl) sc__law_live.nd (pi_str (pv 0)) (blkOk_by (own := [("_law_part", 2)]) (N := n__law_live) (sc := (defScope s__law_live)) (by decide +kernel)) (fun _ _ _ _ _ => (pg_name (i := 2) sc__law_live.nd rfl (Or.inl rfl))) (fun _ _ _ _ _ => (pts_one (pt_chain op_le_str op_le_str pe_str (pv 2) pe_str))) (fun _ _ _ _ _ => (pe_cmpR (op_inK (K := K)) (pv 2) (pv 1) (by rfl)))) pa_nil)))), ?_⟩
    refine ⟨_, rfl, _, rfl, fun D hD => ?_⟩
    refine lcfil (walk_str (z := S b)) (r := rB) b nam (fun c => decide (c ∈ names)) hD sF (S_size b) (by rw [sl64]; omega) (fun _ _ _ => trivial) (fun i c v F4 H4 H5 hc e hy Qy Qn qy qn => ?_) (fun ws F6 H6 e6 fD al => ?_)
    · obtain ⟨rfl, ch, h1, rfl⟩ := hy
      have h1 := S_get h1
      rw [hc] at h1
      obtain rfl := Option.some.inj h1
      have hlH : H5 l = some (.lst (names.map vc)) := e.hh _ _ hl
      refine ⟨rfl, _, rfl, _, _, rfl, rfl, _, rfl, ?_⟩
      rw [up_lo]
      by_cases h1 : 65 ≤ c
      · rw [decide_eq_true h1]
        refine iteT ⟨_, _, rfl, rfl, _, rfl, ?_⟩
        rw [up_hi]
        by_cases h2 : c ≤ 90
        · rw [decide_eq_true h2]
          have hn : nam c = true := nam_iff.mpr ⟨h1, h2⟩
          refine iteT ⟨_, rfl, _, rfl, l, _, rfl, .inl (SqL.of hlH), rfl, (inV_cs c names).1, ?_⟩
          refine qy hn _ F4 H5 (Ext.refl e.fh) ?_
          show V.bl _ = V.bl _
          rw [← (inV_cs c names).2]
          rfl
        · rw [decide_eq_false h2]
          have hn : nam c = false := by cases q : nam c with
            | false => rfl
            | true => exact absurd (nam_iff.mp q).2 h2
          exact iteF (qn hn F4 H5 (Ext.refl e.fh))
      · rw [decide_eq_false h1]
        have hn : nam c = false := by cases q : nam c with
          | false => rfl
          | true => exact absurd (nam_iff.mp q).1 h1
        exact iteF ⟨_, rfl, iteF (qn hn F4 H5 (Ext.refl e.fh))⟩
    · refine ⟨D, _, rfl, SqL.of (by rw [e6.fh _ _ fD, al.bls]), ?_⟩
      have : (((b.filter nam).map fun c => decide (c ∈ names)).all id) = liveB names b := by rw [List.all_map]; rfl
      rw [this]
      exact k F6 H6 e6
end
end SF
namespace SF
open PySem PySem.Spec PyProof.Rows L2
def sp_lawuseful : Sp := fun vs H Q _ => ∃ (F : Hp) (ra : Addr) (rvs : List V) (rules : List Rule) (base : Nat), vs = [.ref ra, vc base] ∧ Same F H ∧ H ra = some (.lst rvs) ∧ Al rRule F rvs rules ∧ RulesOk rules ∧ rules.length ≤ 16 ∧ ∀ v F' H', Ext F H F' H' → rL rNat F' v (lawUseful rules base) → Q v H'
theorem lvTurn_len {rules : List Rule} {live : List Nat} (h : live.length ≤ 1000) (h2 : rules.length ≤ 16) : ∀ j, ((rules.take j).foldl lvStep live).length ≤ live.length + j
  | 0 => by simp
  | j + 1 => by
    have ih := lvTurn_len (rules := rules) (live := live) h h2 j
    cases e : rules[j]? with
    | none =>
      have : rules.take (j + 1) = rules.take j := by
        have hj := List.getElem?_eq_none_iff.mp e
        rw [List.take_of_length_le hj, List.take_of_length_le (by omega)]
      rw [this]
      omega
    | some r =>
      rw [foldl_more e]
      generalize (rules.take j).foldl lvStep live = x at ih ⊢
      unfold lvStep
      split
      · rw [List.length_append]; simp; omega
      · omega
theorem gdParts_len : ∀ (b good : List Nat), (b.foldl gdPart good).length ≤ good.length + b.length
  | [], good => by simp
  | c :: b, good => by
    rw [List.foldl_cons]
    have ih := gdParts_len b (gdPart good c)
    have : (gdPart good c).length ≤ good.length + 1 := by
      unfold gdPart
      split
      · rw [List.length_append]; simp
      · omega
    rw [List.length_cons]
    omega
theorem gdTurn_len {rules : List Rule} {live good : List Nat} (hok : RulesOk rules) : ∀ j, ((rules.take j).foldl (gdStep live) good).length ≤ good.length + 4 * j
  | 0 => by simp
  | j + 1 => by
    have ih := gdTurn_len (rules := rules) (live := live) (good := good) hok j
    cases e : rules[j]? with
    | none =>
      have : rules.take (j + 1) = rules.take j := by
        have hj := List.getElem?_eq_none_iff.mp e
        rw [List.take_of_length_le hj, List.take_of_length_le (by omega)]
      rw [this]
      omega
    | some r =>
      rw [foldl_more e]
      have h4 := (hok r (List.mem_of_getElem? e)).2.1
      generalize (rules.take j).foldl (gdStep live) good = x at ih ⊢
      unfold gdStep
      split
      · have := gdParts_len r.2 x
        omega
      · omega
section
variable {P : Program} {w : World} {K : PySem.W.Frag} {mg : Str → Option Value} {base : Heap} {a : Ad}
theorem ok_lawuseful (T : Txt K mg a) : FnOk P w K mg base CX0 2 a._law_useful a.d__law_useful ["_law_rules", "_law_base"] sp_lawuseful := by
  have G__law_live := ok_live (P := P) (w := w) (base := base) T
  refine T.f__law_useful.ok sc__law_useful (fun vs H Q E h => ?_) (fun cdv A outer s H vs Q E hr h => ?_)
  · obtain ⟨F, ra, rvs, rules, b, rfl, _⟩ := h; rfl
  · obtain ⟨F, ra, rvs, rules, root, rfl, sF, hra, hal, hok, h16, k⟩ := h
    refine ⟨_, (pss_cons (ps_set (i := 2) sc__law_useful.nd rfl (Or.inr rfl) (pe_lst pa_nil))
  (pss_cons (ps_for PassesOwn.never rfl (pi_range1 (by rfl) T.z_range (pa_cons (pe_callB (call_lenK (K := K)) (by rfl) T.z_len PySem.boot_len (pa_cons (pv 0) pa_nil)) pa_nil)) (pg_name (i := 3) sc__law_useful.nd rfl (Or.inl rfl))
    (pss_one (ps_for PassesOwn.never rfl (pi_listK (K := K) (pv 0)) (pg_tupK (K := K) (n := 2) (by rfl) (pgs_cons (pg_name (i := 4) sc__law_useful.nd rfl (Or.inl rfl)) (pgs_cons (pg_name (i := 5) sc__law_useful.nd rfl (Or.inl rfl)) pgs_nil)))
    (pss_one (ps_if (PW.pt (pw_and (pt_cmpR (op_notInK (K := K)) (pv 4) (pv 2) (by rfl)) (pw_and1 (pt_val (pe_call G__law_live (hr.mono (by decide)) (by rfl) T.m__law_live T.f__law_live.kp T.b__law_live .nil pass0 (pa_cons (pv 5) (pa_cons (pv 2) pa_nil)))))))
    (pss_one (ps_expr (pe_bmK (K := K) PySem.F.plainAttrs_list PySem.F.slot_list_append PySem.F.type_list_append mt_append (pv 2) (pa_cons (pv 4) pa_nil))))
    pss_nil)))))
  (pss_cons (ps_set (i := 6) sc__law_useful.nd rfl (Or.inr rfl) (pe_lst (pa_cons (pv 1) pa_nil)))
  (pss_cons (ps_for PassesOwn.never rfl (pi_range1 (by rfl) T.z_range (pa_cons (pe_callB (call_lenK (K := K)) (by rfl) T.z_len PySem.boot_len (pa_cons (pv 0) pa_nil)) pa_nil)) (pg_name (i := 3) sc__law_useful.nd rfl (Or.inl rfl))
    (pss_one (ps_for PassesOwn.never rfl (pi_listK (K := K) (pv 0)) (pg_tupK (K := K) (n := 2) (by rfl) (pgs_cons (pg_name (i := 4) sc__law_useful.nd rfl (Or.inl rfl)) (pgs_cons (pg_name (i := 5) sc__law_useful.nd rfl (Or.inl rfl)) pgs_nil)))
    (pss_one (ps_if (PW.pt (pw_and (pt_cmpR (op_inK (K := K)) (pv 4) (pv 6) (by rfl)) (pw_and1 (pt_val (pe_call G__law_live (hr.mono (by decide)) (by rfl) T.m__law_live T.f__law_live.kp T.b__law_live .nil pass0 (pa_cons (pv 5) (pa_cons (pv 2) pa_nil)))))))
    (pss_one (ps_for PassesOwn.never rfl (pi_str (pv 5)) (pg_name (i := 7) sc__law_useful.nd rfl (Or.inl rfl))
    (pss_one (ps_if (PW.pt (pw_and (pt_chain op_le_str op_le_str pe_str (pv 7) pe_str) (pw_and1 (pt_cmpR (op_notInK (K := K)) (pv 7) (pv 6) (by rfl)))))
    (pss_one (ps_expr (pe_bmK (K := K) PySem.F.plainAttrs_list PySem.F.slot_list_append PySem.F.type_list_append mt_append (pv 6) (pa_cons (pv 7) pa_nil))))
    pss_nil))))
    pss_nil)))))
  (pss_one (ps_ret (pe_lc (own := [("_law_k", 8)]) (g := gName 8) (by rfl) sc__law_useful.nd (pi_range1 (by rfl) T.z_range (pa_cons (pe_callB (call_lenK (K := K)) (by rfl) T.z_len PySem.boot_len (pa_cons (pv 0) pa_nil)) pa_nil)) (blkOk_by (own := [("_law_k", 8)]) (N := n__law_useful) (sc := (defScope s__law_useful)) (by decide +kernel)) (fun _ _ _ _ _ => (pg_name (i := 8) sc__law_useful.nd rfl (Or.inl rfl))) (fun _ _ _ _ _ => (pts_one (PW.pt (pw_and (pt_cmpR (op_inK (K := K)) (pe_ix (ix_tupK (K := K)) (pe_ix (ix_listK (K := K)) (pv 0) (pv 8) (fun _ _ => rfl)) pe_int (fun _ _ => rfl)) (pv 6) (by rfl)) (pw_and1 (pt_val (pe_call G__law_live (hr.mono (by decide)) (by rfl) T.m__law_live T.f__law_live.kp T.b__law_live .nil pass0 (pa_cons (pe_ix (ix_tupK (K := K)) (pe_ix (ix_listK (K := K)) (pv 0) (pv 8) (fun _ _ => rfl)) pe_int (fun _ _ => rfl)) (pa_cons (pv 2) pa_nil))))))))) (fun _ _ _ _ _ => (pv 8))))))))), ?_⟩
    have hrl := hal.len
    refine ⟨by rw [sl64]; simp, fun L hL => ?_⟩
    have eL := (Ext.refl sF).newM hL (o := .lst [])
    have hra1 := eL.hh _ _ hra
    refine ⟨_, rfl, ra, _, rfl, .inl (SqL.of hra1), _, rfl, by omega, by omega, ?_⟩
    rw [Int.toNat_natCast, hrl]
    refine for_range (lo := 0) (n := rules.length) (fun i σ H' => ∃ (x3 x4 x5 : Option V) (F' : Hp), σ = [some (.ref ra), some (vc root), some (.ref L), x3, x4, x5, none, none, none] ∧ Ext F H F' H' ∧ F' L = none ∧ H' L = some (.lst ((turns (lvTurn rules) i []).map vc)) ∧ (turns (lvTurn rules) i []).length ≤ 16 * i)
      ⟨none, none, none, F, rfl, eL, sF.free hL, upd_same, by simp [turns]⟩ ?_ ?_
    · rintro i σ H1 hi ⟨x3, x4, x5, F1, rfl, e1, f1, hL1, hl1⟩
      show ∃ _, _
      refine ⟨_, rfl, ra, rfl, ⟨_, SqL.of (e1.hh _ _ hra)⟩, for_list (K := K) (a := ra) (xs := rvs) (fun j σ H' => ∃ (x4 x5 : Option V) (F' : Hp), σ = [some (.ref ra), some (vc root), some (.ref L), some (.int (0 + (i : Nat))), x4, x5, none, none, none] ∧ Ext F H F' H' ∧ F' L = none ∧
        H' L = some (.lst (((rules.take j).foldl lvStep (turns (lvTurn rules) i [])).map vc))) ⟨x4, x5, F1, rfl, e1, f1, hL1⟩ (fun j σ H' _ h => ?_) ?_ ?_⟩
      · obtain ⟨_, _, _, _, e, _⟩ := h
        exact SqL.of (e.hh _ _ hra)
      · rintro j y σ H2 hy ⟨x4, x5, F2, rfl, e2, f2, hL2⟩
        obtain ⟨r, t, hr', rfl, ht⟩ := rule_at hal hy
        have hrok := hok r (List.mem_of_getElem? hr')
        have hlen := lvTurn_len (rules := rules) (live := turns (lvTurn rules) i []) (by omega) h16 j
        have hjl := (List.getElem?_eq_some_iff.mp hr').1
        have hst := foldl_more (f := lvStep) (b := turns (lvTurn rules) i []) hr'
        generalize (rules.take j).foldl lvStep (turns (lvTurn rules) i []) = live at hst hL2 hlen ⊢
        refine ⟨t, _, rfl, SqT.of (e2.sm _ _ ht), rfl, _, _, rfl, _, _, rfl, rfl, ?_⟩
        refine ⟨_, rfl, _, rfl, L, _, rfl, .inl (SqL.of hL2), rfl, (inV_cs r.1 live).1, _, rfl, ?_⟩
        rw [(inV_cs r.1 live).2]
        have stay : lvStep live r = live → ∃ (x4 x5 : Option V) (F' : Hp), [some (V.ref ra), some (vc root), some (.ref L), some (.int (0 + (i : Nat))), some (vc r.1), some (.str (S r.2)), none, none, none] = [some (.ref ra), some (vc root), some (.ref L), some (.int (0 + (i : Nat))), x4, x5, none, none, none] ∧ Ext F H F' H2 ∧ F' L = none ∧
            H2 L = some (.lst ((lvStep live r).map vc)) := fun h => ⟨_, _, F2, rfl, e2, f2, by rw [h]; exact hL2⟩
        by_cases hin : r.1 ∈ live
        · rw [decide_eq_true hin]
          refine iteF (iteF ?_)
          rw [hst]
          exact stay (if_neg (fun z => z.1 hin))
        · rw [decide_eq_false hin]
          refine iteT ⟨_, rfl, _, rfl, F2, r.2, L, live, rfl, e2.fh, hL2, by have := hrok.2.1; omega, fun F3 H3 e3 => ⟨_, rfl, ?_⟩⟩
          have e23 := e2.trans e3
          have hL3 := e3.hh _ _ hL2
          have f3 : F3 L = none := e3.nf L (by rw [hL2]; simp) f2
          rw [hst]
          cases hl : liveB live r.2 with
          | false =>
            refine iteF ⟨_, _, F3, rfl, e23, f3, ?_⟩
            rw [hL3, show lvStep live r = live from if_neg (fun z => by rw [hl] at z; cases z.2)]
          | true =>
            refine iteT ⟨_, rfl, .inl ⟨rfl, _, SqL.of hL3⟩, _, rfl, L, _, _, rfl, rfl, hL3, by rw [List.length_map, sl64]; omega, ?_⟩
            refine ⟨_, _, F3, rfl, e23.set hL f3, f3, ?_⟩
            rw [upd_same, show lvStep live r = live ++ [r.1] from if_pos ⟨hin, hl⟩, List.map_append]
            rfl
      · rintro σ H3 ⟨x4, x5, F3, rfl, e3, f3, hL3⟩
        have hlen := lvTurn_len (rules := rules) (live := turns (lvTurn rules) i []) (by omega) h16 rvs.length
        rw [hrl, List.take_length] at hL3 hlen
        exact ⟨_, x4, x5, F3, rfl, e3, f3, hL3, by show (List.foldl lvStep _ rules).length ≤ _; omega⟩
    · rintro σ H1 ⟨x3, x4, x5, F1, rfl, e1, f1, hL1, hl1⟩
      have hlive : turns (lvTurn rules) rules.length [] = lawLive rules := rfl
      rw [hlive] at hL1 hl1
      generalize hlv : lawLive rules = live at hL1 hl1 ⊢
      refine ⟨_, rfl, by rw [sl64]; simp, fun G hG => ?_⟩
      have hGL : G ≠ L := fun e => by subst e; rw [hL1] at hG; cases hG
      have hG0 : H G = none := e1.free hG
      have eG := e1.newM hG (o := .lst [vc root])
      have fG1 : F1 G = none := e1.freeF hG
      have hraG := eG.hh _ _ hra
      refine ⟨_, rfl, ra, _, rfl, .inl (SqL.of hraG), _, rfl, by omega, by omega, ?_⟩
      rw [Int.toNat_natCast, hrl]
      refine for_range (lo := 0) (n := rules.length) (fun i σ H' => ∃ (x3 x4 x5 x7 : Option V) (F' : Hp), σ = [some (.ref ra), some (vc root), some (.ref L), x3, x4, x5, some (.ref G), x7, none] ∧ Ext F H F' H' ∧ F' L = none ∧ F' G = none ∧ H' L = some (.lst (live.map vc)) ∧
        H' G = some (.lst ((turns (gdTurn rules live) i [root]).map vc)) ∧ (turns (gdTurn rules live) i [root]).length ≤ 1 + 64 * i) ⟨x3, x4, x5, none, F1, rfl, eG, f1, fG1, by rw [upd_ne hGL.symm]; exact hL1, upd_same, by simp [turns]⟩ ?_ ?_
      · rintro i σ H2 hi ⟨x3, x4, x5, x7, F2, rfl, e2, fL2, fG2, hL2, hG2, hl2⟩
        show ∃ _, _
        refine ⟨_, rfl, ra, rfl, ⟨_, SqL.of (e2.hh _ _ hra)⟩, for_list (K := K) (a := ra) (xs := rvs) (fun j σ H' => ∃ (x4 x5 x7 : Option V) (F' : Hp), σ = [some (.ref ra), some (vc root), some (.ref L), some (.int (0 + (i : Nat))), x4, x5, some (.ref G), x7, none] ∧ Ext F H F' H' ∧ F' L = none ∧ F' G = none ∧ H' L = some (.lst (live.map vc)) ∧
          H' G = some (.lst (((rules.take j).foldl (gdStep live) (turns (gdTurn rules live) i [root])).map vc))) ⟨x4, x5, x7, F2, rfl, e2, fL2, fG2, hL2, hG2⟩ (fun j σ H' _ h => ?_) ?_ ?_⟩
        · obtain ⟨_, _, _, _, _, e, _⟩ := h
          exact SqL.of (e.hh _ _ hra)
        · rintro j y σ H3 hy ⟨x4, x5, x7, F3, rfl, e3, fL3, fG3, hL3, hG3⟩
          obtain ⟨r, t, hr', rfl, ht⟩ := rule_at hal hy
          have hrok := hok r (List.mem_of_getElem? hr')
          have hlen := gdTurn_len (live := live) (good := turns (gdTurn rules live) i [root]) hok j
          have hjl := (List.getElem?_eq_some_iff.mp hr').1
          have hst := foldl_more (f := gdStep live) (b := turns (gdTurn rules live) i [root]) hr'
          generalize (rules.take j).foldl (gdStep live) (turns (gdTurn rules live) i [root]) = good at hst hG3 hlen ⊢
          refine ⟨t, _, rfl, SqT.of (e3.sm _ _ ht), rfl, _, _, rfl, _, _, rfl, rfl, ?_⟩
          refine ⟨_, rfl, _, rfl, G, _, rfl, .inl (SqL.of hG3), rfl, (inV_cs r.1 good).1, _, rfl, ?_⟩
          rw [(inV_cs r.1 good).2]
          by_cases hin : r.1 ∈ good
          · rw [decide_eq_true hin]
            refine iteT ⟨_, rfl, _, rfl, F3, r.2, L, live, rfl, e3.fh, hL3, by have := hrok.2.1; omega, fun F4 H4 e4 => ⟨_, rfl, ?_⟩⟩
            have e34 := e3.trans e4
            have hL4 := e4.hh _ _ hL3
            have hG4 := e4.hh _ _ hG3
            have fL4 : F4 L = none := e4.nf L (by rw [hL3]; simp) fL3
            have fG4 : F4 G = none := e4.nf G (by rw [hG3]; simp) fG3
            rw [hst]
            cases hl : liveB live r.2 with
            | false =>
              refine iteF ⟨_, _, _, F4, rfl, e34, fL4, fG4, hL4, ?_⟩
              rw [hG4, show gdStep live good r = good from if_neg (fun z => by rw [hl] at z; cases z.2)]
            | true =>
              rw [show gdStep live good r = r.2.foldl gdPart good from if_pos ⟨hin, hl⟩]
              refine iteT ⟨_, rfl, _, rfl, for_it (walk_str (z := S r.2)) (fun p σ H' => ∃ (x7 : Option V), σ = [some (.ref ra), some (vc root), some (.ref L), some (.int (0 + (i : Nat))), some (vc r.1), some (.str (S r.2)), some (.ref G), x7, none] ∧ Ext F H F4 H' ∧ H' L = some (.lst (live.map vc)) ∧
                H' G = some (.lst (((r.2.take p).foldl gdPart good).map vc))) ⟨x7, rfl, e34, hL4, hG4⟩ (fun _ _ _ _ _ => trivial) ?_ ?_⟩
              · rintro p x σ H5 H6 hp ⟨x7, rfl, e5, hL5, hG5⟩ ⟨rfl, c, hc, rfl⟩
                have hc := S_get hc
                have hgl := gdParts_len (r.2.take p) good
                have hst2 := foldl_more (f := gdPart) (b := good) hc
                have hpl := (List.getElem?_eq_some_iff.mp hc).1
                rw [List.length_take] at hgl
                generalize (r.2.take p).foldl gdPart good = g2 at hst2 hG5 hgl ⊢
                rw [hst2]
                have keep : gdPart g2 c = g2 → ∃ (x7 : Option V), [some (V.ref ra), some (vc root), some (.ref L), some (.int (0 + (i : Nat))), some (vc r.1), some (.str (S r.2)), some (.ref G), some (vc c), none] = [some (.ref ra), some (vc root), some (.ref L), some (.int (0 + (i : Nat))), some (vc r.1), some (.str (S r.2)), some (.ref G), x7, none] ∧ Ext F H F4 H6 ∧ H6 L = some (.lst (live.map vc)) ∧
                    H6 G = some (.lst ((gdPart g2 c).map vc)) := fun h => ⟨_, rfl, e5, hL5, by rw [h]; exact hG5⟩
                refine ⟨_, rfl, _, _, rfl, rfl, _, rfl, ?_⟩
                rw [up_lo]
                by_cases h1 : 65 ≤ c
                · rw [decide_eq_true h1]
                  refine iteT ⟨_, _, rfl, rfl, _, rfl, ?_⟩
                  rw [up_hi]
                  by_cases h2 : c ≤ 90
                  · rw [decide_eq_true h2]
                    have hn : nam c = true := nam_iff.mpr ⟨h1, h2⟩
                    refine iteT ⟨_, rfl, _, rfl, G, _, rfl, .inl (SqL.of hG5), rfl, (inV_cs c g2).1, _, rfl, ?_⟩
                    rw [(inV_cs c g2).2]
                    by_cases h3 : c ∈ g2
                    · rw [decide_eq_true h3]
                      refine iteF ?_
                      exact keep (if_neg (fun z => z.2 h3))
                    · rw [decide_eq_false h3]
                      refine iteT ⟨_, rfl, .inl ⟨rfl, _, SqL.of hG5⟩, _, rfl, G, _, _, rfl, rfl, hG5, by rw [List.length_map, sl64]; omega, ?_⟩
                      refine ⟨_, rfl, e5.set hG0 fG4, by rw [upd_ne hGL.symm]; exact hL5, ?_⟩
                      rw [upd_same, show gdPart g2 c = g2 ++ [c] from if_pos ⟨hn, h3⟩, List.map_append]
                      rfl
                  · rw [decide_eq_false h2]
                    have hn : ¬ nam c = true := fun q => h2 (nam_iff.mp q).2
                    refine iteF (iteF ?_)
                    exact keep (if_neg (fun z => hn z.1))
                · rw [decide_eq_false h1]
                  have hn : ¬ nam c = true := fun q => h1 (nam_iff.mp q).1
                  refine iteF ⟨_, rfl, iteF (iteF ?_)⟩
                  exact keep (if_neg (fun z => hn z.1))
              · rintro σ H7 ⟨x7, rfl, e7, hL7, hG7⟩
                rw [S_size, List.take_length] at hG7
                exact ⟨_, _, x7, F4, rfl, e7, fL4, fG4, hL7, hG7⟩
          · rw [decide_eq_false hin]
            refine iteF (iteF ⟨_, _, _, F3, rfl, e3, fL3, fG3, hL3, ?_⟩)
            rw [hG3, hst, show gdStep live good r = good from if_neg (fun z => hin z.1)]
        · rintro σ H3 ⟨x4, x5, x7, F3, rfl, e3, fL3, fG3, hL3, hG3⟩
          have hlen := gdTurn_len (live := live) (good := turns (gdTurn rules live) i [root]) hok rvs.length
          rw [hrl, List.take_length] at hG3 hlen
          exact ⟨_, x4, x5, x7, F3, rfl, e3, fL3, fG3, hL3, hG3, by show (List.foldl (gdStep live) _ rules).length ≤ _; omega⟩
      · rintro σ H2 ⟨x3, x4, x5, x7, F2, rfl, e2, fL2, fG2, hL2, hG2, hl2⟩
        have hgood : turns (gdTurn rules live) rules.length [root] = lawGood rules root := by rw [← hlv]; rfl
        rw [hgood] at hG2 hl2
        generalize hgd : lawGood rules root = good at hG2 hl2
        have hra2 := e2.hh _ _ hra
        refine ⟨_, rfl, ra, _, rfl, .inl (SqL.of hra2), _, rfl, by omega, by omega, fun D hD => ?_⟩
        rw [Int.toNat_natCast, hrl]
        refine lcfil (walk_range (lo := 0) (n := rules.length)) (r := rNat) (List.range rules.length) (fun k => match rules[k]? with
          | none => false
          | some r => decide (r.1 ∈ lawGood rules root) && liveB (lawLive rules) r.2) (fun k => k) hD e2.fh List.length_range.symm (by rw [List.length_range, sl64]; omega) (fun _ _ _ => trivial) (fun i kk v F4 H4 H5 hc e hy Qy Qn qy qn => ?_) (fun ws F6 H6 e6 fD al => ?_)
        · obtain ⟨rfl, rfl⟩ := hy
          have hlt : i < rules.length := by have := (List.getElem?_eq_some_iff.mp hc).1; rwa [List.length_range] at this
          rw [List.getElem?_range hlt] at hc
          obtain rfl := Option.some.inj hc
          have hr' : rules[i]? = some rules[i] := List.getElem?_eq_getElem hlt
          have hrok := hok _ (List.mem_of_getElem? hr')
          generalize rules[i] = r at hr' hrok
          obtain ⟨tv, htv, t, u1, u2, rfl, ht, h3, h4⟩ := hal.get' hr'
          rw [show u1 = _ from h3, show u2 = _ from h4] at ht
          have hra4 := e.hh _ _ hra2
          have hG4 := e.hh _ _ hG2
          have hL4 := e.hh _ _ hL2
          have ht4 := (e2.trans e).sm _ _ ht
          have hpe : (match rules[i]? with | none => false | some r => decide (r.1 ∈ lawGood rules root) && liveB (lawLive rules) r.2) = (decide (r.1 ∈ good) && liveB live r.2) := by rw [hr', hgd, hlv]
          rw [hpe] at qy qn
          refine ⟨rfl, _, rfl, _, rfl, ra, _, _, _, rfl, rfl, SqL.of hra4, at_of (j := i) (v := .ref t) (by omega) htv, t, _, 0, _, rfl, rfl, SqT.of ht4, rfl, _, rfl, G, _, rfl, .inl (SqL.of hG4), rfl, (inV_cs r.1 good).1, _, rfl, ?_⟩
          rw [(inV_cs r.1 good).2]
          by_cases hin : r.1 ∈ good
          · rw [decide_eq_true hin] at qy qn ⊢
            refine iteT ⟨_, rfl, _, rfl, ra, _, _, _, rfl, rfl, SqL.of hra4, at_of (j := i) (v := .ref t) (by omega) htv, t, _, 1, _, rfl, rfl, SqT.of ht4, rfl, _, rfl, F4, r.2, L, live, rfl, e.fh, hL4, by have := hrok.2.1; omega, fun F7 H7 e7 => ⟨_, rfl, ?_⟩⟩
            cases hl : liveB live r.2 with
            | true =>
              refine iteT ⟨_, rfl, qy (by rw [hl]; rfl) _ F7 H7 e7 ?_⟩
              show V.int _ = V.int _
              rw [Int.zero_add]
            | false => exact iteF (qn (by rw [hl]; rfl) F7 H7 e7)
          · rw [decide_eq_false hin] at qy qn ⊢
            exact iteF (iteF (qn rfl F4 H5 (Ext.refl e.fh)))
        · refine k _ F6 H6 (e2.trans e6) ⟨D, ws, rfl, fD, ?_⟩
          rw [List.map_id'] at al
          exact al
end
end SF
namespace SF
open PySem PySem.Spec PyProof.Rows L2
def sp_isnum : Sp := fun vs H Q _ => ∃ i : Int, vs = [.int i] ∧ Q (.bl true) H
def sp_wider : Sp := fun vs H Q _ => ∃ (F : Hp) (rv dv : V) (rules : List Rule) (base : Nat) (d : List Nat), vs = [rv, vc base, dv] ∧ Same F H ∧ rL rRule F rv rules ∧ rL rNat F dv d ∧ 10 ≤ d.length ∧ RulesOk rules ∧ rules.length ≤ 8 ∧ 23 ≤ (wdFree rules).length ∧
  ∀ l rvs F' H', Ext F H F' H' → H l = none → F' l = none → H' l = some (.lst rvs) → Al rRule F' rvs (lawWider rules base d) → Q (.ref l) H'
theorem sum_few (k : Nat) : ∀ l : List (List Nat), (∀ x ∈ l, x.length ≤ k) → (l.map List.length).sum ≤ l.length * k
  | [], _ => by simp
  | x :: r, h => by
    have ih := sum_few k r fun y hy => h y (List.mem_cons_of_mem _ hy)
    have := h x (List.mem_cons_self ..)
    rw [List.map_cons, List.sum_cons, List.length_cons, Nat.succ_mul]
    omega
theorem wdHeads_few {rules : List Rule} (hok : RulesOk rules) : ((wdHeads rules).map List.length).sum ≤ (rules.length + rules.length) * 4 := by
  have h := sum_few 4 (wdHeads rules) (fun x hx => by
    rcases List.mem_append.mp hx with h | h
    · obtain ⟨r, _, rfl⟩ := List.mem_map.mp h
      simp
    · obtain ⟨r, hr, rfl⟩ := List.mem_map.mp h
      exact (hok r hr).2.1)
  have hl : (wdHeads rules).length = rules.length + rules.length := by
    unfold wdHeads
    rw [List.length_append, List.length_map, List.length_map]
  rw [hl] at h
  exact h
theorem more_mk {σ : L2.St} {F : Hp} {b n p : Nat} (h1 : σ[1]? = some (some (vc b))) (h5 : σ[5]? = some (some (vc n))) (h6 : σ[6]? = some (some (vc p))) : Mkd (tLst (tCons (tTup (tCons (tVar 5) (tCons (tOp (fun x y H Q => ∃ i j, x = V.str i ∧ y = V.str j ∧ i.length + j.length ≤ sizeLine ∧ Q (V.str (i ++ j)) H) (tC (V.str (Str.ofString "z"))) (tVar 5)) tNil))) (tCons (tTup (tCons (tVar 1) (tCons (tOp (fun x y H Q => ∃ i j, x = V.str i ∧ y = V.str j ∧ i.length + j.length ≤ sizeLine ∧ Q (V.str (i ++ j)) H) (tC (V.str (Str.ofString "y"))) (tVar 5)) tNil))) (tCons (tTup (tCons (tVar 6) (tCons (tC (V.str (Str.ofString "x"))) tNil))) tNil)))) σ (rL rRule) [(n, [122] ++ [n]), (b, [121] ++ [n]), (p, [120])] F :=
  (mk_lst (mka_cons (mk_tup (r := rC) (t := rS) (mk_var (r := rC) (i := 5) (v := vc n) (x := n) h5 rfl) (mk_cat (a := [122]) (b := [n]) (mk_c (r := rS) (x := [122]) (congrArg V.str (by decide))) (mk_var (r := rS) (i := 5) (v := vc n) (x := [n]) h5 rfl) (by simp))) (mka_cons (mk_tup (r := rC) (t := rS) (mk_var (r := rC) (i := 1) (v := vc b) (x := b) h1 rfl) (mk_cat (a := [121]) (b := [n]) (mk_c (r := rS) (x := [121]) (congrArg V.str (by decide))) (mk_var (r := rS) (i := 5) (v := vc n) (x := [n]) h5 rfl) (by simp))) (mka_cons (mk_tup (r := rC) (t := rS) (mk_var (r := rC) (i := 6) (v := vc p) (x := p) h6 rfl) (mk_c (r := rS) (x := [120]) (congrArg V.str (by decide)))) mka_nil))) (by simp))
theorem more_use {σ : L2.St} {F H : Hp} {Q : V → Hp → Prop} {b n p : Nat} (h1 : σ[1]? = some (some (vc b))) (h5 : σ[5]? = some (some (vc n))) (h6 : σ[6]? = some (some (vc p))) (sF : Same F H)
    (k : ∀ v F' H', Ext F H F' H' → rL rRule F' v (wdMore b n p) → Q v H') : (tLst (tCons (tTup (tCons (tVar 5) (tCons (tOp (fun x y H Q => ∃ i j, x = V.str i ∧ y = V.str j ∧ i.length + j.length ≤ sizeLine ∧ Q (V.str (i ++ j)) H) (tC (V.str (Str.ofString "z"))) (tVar 5)) tNil))) (tCons (tTup (tCons (tVar 1) (tCons (tOp (fun x y H Q => ∃ i j, x = V.str i ∧ y = V.str j ∧ i.length + j.length ≤ sizeLine ∧ Q (V.str (i ++ j)) H) (tC (V.str (Str.ofString "y"))) (tVar 5)) tNil))) (tCons (tTup (tCons (tVar 6) (tCons (tC (V.str (Str.ofString "x"))) tNil))) tNil)))) σ H Q := more_mk h1 h5 h6 F H Q (fun _ _ h => h) sF k
theorem mk_ixl {K : PySem.W.Frag} {α : Type} {r : Rl α} [Mono r] {σ : L2.St} {F0 : Hp} {i k : Nat} {a : Addr} {ls : List Nat} {c : Nat} {y : α} {z : Int} (h : σ[i]? = some (some (.ref a))) (hl : F0 a = some (.lst (ls.map vc))) (hz : z = (k : Int)) (hg : (ls.map vc)[k]? = some (vc c)) (hr : r F0 (vc c) y) :
    Mkd (tOp (rIxL K) (tVar i) (tC (V.int z))) σ r y F0 := fun F H Q s0 s kk =>
  ⟨_, h, a, _, _, vc c, rfl, rfl, SqL.of (s _ _ (s0 _ _ hl)), at_of (j := k) hz hg, kk (vc c) F H (Ext.refl s) (Mono.mono s0 hr)⟩
theorem chain_use {K : PySem.W.Frag} {σ : L2.St} {F H : Hp} {Q : V → Hp → Prop} {D : Addr} {b x y z : Nat} (h1 : σ[1]? = some (some (vc b))) (h10 : σ[10]? = some (some (.ref D))) (hl : F D = some (.lst ([x, y, z].map vc))) (sF : Same F H)
    (k : ∀ v F' H', Ext F H F' H' → rL rRule F' v (wdChain b x y z) → Q v H') : (tLst (tCons (tTup (tCons (tVar 1) (tCons (tOp (rIxL K) (tVar 10) (tC (V.int 0))) tNil))) (tCons (tTup (tCons (tOp (rIxL K) (tVar 10) (tC (V.int 0))) (tCons (tOp (rIxL K) (tVar 10) (tC (V.int 1))) tNil))) (tCons (tTup (tCons (tOp (rIxL K) (tVar 10) (tC (V.int 1))) (tCons (tOp (rIxL K) (tVar 10) (tC (V.int 2))) tNil))) (tCons (tTup (tCons (tOp (rIxL K) (tVar 10) (tC (V.int 2))) (tCons (tC (V.str (Str.ofString "q"))) tNil))) tNil))))) σ H Q := (show Mkd (tLst (tCons (tTup (tCons (tVar 1) (tCons (tOp (rIxL K) (tVar 10) (tC (V.int 0))) tNil))) (tCons (tTup (tCons (tOp (rIxL K) (tVar 10) (tC (V.int 0))) (tCons (tOp (rIxL K) (tVar 10) (tC (V.int 1))) tNil))) (tCons (tTup (tCons (tOp (rIxL K) (tVar 10) (tC (V.int 1))) (tCons (tOp (rIxL K) (tVar 10) (tC (V.int 2))) tNil))) (tCons (tTup (tCons (tOp (rIxL K) (tVar 10) (tC (V.int 2))) (tCons (tC (V.str (Str.ofString "q"))) tNil))) tNil))))) σ (rL rRule) [(b, [x]), (x, [y]), (y, [z]), (z, [113])] F from (mk_lst (mka_cons (mk_tup (r := rC) (t := rS) (mk_var (r := rC) (i := 1) (v := vc b) (x := b) h1 rfl) (mk_ixl (r := rS) (y := [x]) (a := D) h10 hl rfl rfl rfl)) (mka_cons (mk_tup (r := rC) (t := rS) (mk_ixl (r := rC) (y := x) (a := D) h10 hl rfl rfl rfl) (mk_ixl (r := rS) (y := [y]) (a := D) h10 hl rfl rfl rfl)) (mka_cons (mk_tup (r := rC) (t := rS) (mk_ixl (r := rC) (y := y) (a := D) h10 hl rfl rfl rfl) (mk_ixl (r := rS) (y := [z]) (a := D) h10 hl rfl rfl rfl)) (mka_cons (mk_tup (r := rC) (t := rS) (mk_ixl (r := rC) (y := z) (a := D) h10 hl rfl rfl rfl) (mk_c (r := rS) (x := [113]) (congrArg V.str (by decide)))) mka_nil)))) (by simp))) F H Q (fun _ _ h => h) sF k
theorem Al.rev {α : Type} {r : Rl α} {F : Hp} : ∀ {vs : List V} {xs : List α}, Al r F vs xs → Al r F vs.reverse xs.reverse
  | _, _, .nil => .nil
  | _, _, .cons h t => by
    rw [List.reverse_cons, List.reverse_cons]
    exact (Al.rev t).snoc h
section
variable {P : Program} {w : World} {K : PySem.W.Frag} {mg : Str → Option Value} {base : Heap} {a : Ad}
theorem ok_isnum (T : Txt K mg a) : FnOk P w K mg base CX0 1 a._law_is_number a.d__law_is_number ["_law_x"] sp_isnum := by
  refine T.f__law_is_number.ok sc__law_is_number (fun vs H Q E h => ?_) (fun cdv A outer s H vs Q E hr h => ?_)
  · obtain ⟨i, rfl, _⟩ := h; rfl
  · obtain ⟨i, rfl, k⟩ := h
    refine ⟨_, (pss_one (ps_ret (pe_and (pe_callB (isiK (K := K)) (by rfl) T.z_isinstance (by decide +kernel) (pa_cons (pv 0) (pa_cons (pe_bltn (v := .ty "int") (u := .type "int") (by rfl) T.z_int (by decide +kernel) rfl) pa_nil))) (pe_one (pe_not (pe_callB (isiK (K := K)) (by rfl) T.z_isinstance (by decide +kernel) (pa_cons (pv 0) (pa_cons (pe_bltn (v := .ty "bool") (u := .type "bool") (by rfl) T.z_bool (by decide +kernel) rfl) pa_nil)))))))), ?_⟩
    refine ⟨_, rfl, _, _, _, _, true, rfl, .ty "int", .base (.int i), kit_ty (by decide +kernel), _, rfl, iteT ?_⟩
    refine ⟨_, rfl, _, _, _, _, false, rfl, .ty "bool", .base (.int i), kit_ty (by decide +kernel), ?_⟩
    exact ⟨_, rfl, k⟩

theorem ok_wider (T : Txt K mg a) : FnOk P w K mg base CX0 1 a._law_wider a.d__law_wider ["_law_rules", "_law_base", "_law_draws_here"] sp_wider := by
  refine T.f__law_wider.ok sc__law_wider (fun vs H Q E h => ?_) (fun cdv A outer s H vs Q E hr h => ?_)
  · obtain ⟨F, rv, dv, rules, b, d, rfl, _⟩ := h; rfl
  · obtain ⟨F, _, _, rules, root, d, rfl, sF, ⟨ra, rvs, rfl, hra, hal⟩, ⟨da, dvs, rfl, hda, dal⟩, hd10, hok, h8, hfree, k⟩ := h
    refine ⟨_, (pss_cons (ps_set (i := 3) sc__law_wider.nd rfl (Or.inr rfl) (pe_op op_cat (pe_lc (own := [("_law_name", 13), ("_law_body", 12)]) (tt := tYes) (by rfl) sc__law_wider.nd (pi_listK (K := K) (pv 0)) (blkOk_by (own := [("_law_name", 13), ("_law_body", 12)]) (N := n__law_wider) (sc := (defScope s__law_wider)) (by decide +kernel)) (fun _ _ _ _ _ => (pg_tupK (K := K) (n := 2) (by rfl) (pgs_cons (pg_name (i := 13) sc__law_wider.nd rfl (Or.inl rfl)) (pgs_cons (pg_name (i := 12) sc__law_wider.nd rfl (Or.inl rfl)) pgs_nil)))) (fun _ _ _ _ _ => pts_nil) (fun _ _ _ _ _ => (pv 13))) (pe_lc (own := [("_law_name", 13), ("_law_body", 12)]) (tt := tYes) (by rfl) sc__law_wider.nd (pi_listK (K := K) (pv 0)) (blkOk_by (own := [("_law_name", 13), ("_law_body", 12)]) (N := n__law_wider) (sc := (defScope s__law_wider)) (by decide +kernel)) (fun _ _ _ _ _ => (pg_tupK (K := K) (n := 2) (by rfl) (pgs_cons (pg_name (i := 13) sc__law_wider.nd rfl (Or.inl rfl)) (pgs_cons (pg_name (i := 12) sc__law_wider.nd rfl (Or.inl rfl)) pgs_nil)))) (fun _ _ _ _ _ => pts_nil) (fun _ _ _ _ _ => (pv 12)))))
  (pss_cons (ps_set (i := 4) sc__law_wider.nd rfl (Or.inr rfl) (pe_lc (own := [("_law_letter", 14)]) (g := gName 14) (by rfl) sc__law_wider.nd (pi_str pe_str) (blkOk_by (own := [("_law_letter", 14)]) (N := n__law_wider) (sc := (defScope s__law_wider)) (by decide +kernel)) (fun _ _ _ _ _ => (pg_name (i := 14) sc__law_wider.nd rfl (Or.inl rfl))) (fun _ _ _ _ _ => (pts_one (pt_cmpR op_notIn_sign (pv 14) (pe_joinK (K := K) pe_str (pv 3)) (by rfl)))) (fun _ _ _ _ _ => (pv 14))))
  (pss_cons (ps_set (i := 5) sc__law_wider.nd rfl (Or.inl rfl) (pe_ix (ix_listK (K := K)) (pv 4) (pe_op op_mod (pe_ix (ix_listK (K := K)) (pv 2) pe_int (fun _ _ => rfl)) (pe_callB (call_lenK (K := K)) (by rfl) T.z_len PySem.boot_len (pa_cons (pv 4) pa_nil))) (fun _ _ => rfl)))
  (pss_cons (ps_set (i := 6) sc__law_wider.nd rfl (Or.inl rfl) (pe_ix (ix_listK (K := K)) (pv 4) (pe_op op_mod (pe_op op_add (pe_ix (ix_listK (K := K)) (pv 2) pe_int (fun _ _ => rfl)) pe_int) (pe_callB (call_lenK (K := K)) (by rfl) T.z_len PySem.boot_len (pa_cons (pv 4) pa_nil))) (fun _ _ => rfl)))
  (pss_cons (ps_set (i := 7) sc__law_wider.nd rfl (Or.inl rfl) (pe_lst (pa_cons (pe_tup (pa_cons (pv 5) (pa_cons (pe_op op_add_str pe_str (pv 5)) pa_nil))) (pa_cons (pe_tup (pa_cons (pv 1) (pa_cons (pe_op op_add_str pe_str (pv 5)) pa_nil))) (pa_cons (pe_tup (pa_cons (pv 6) (pa_cons pe_str pa_nil))) pa_nil)))))
  (pss_cons (ps_set (i := 8) sc__law_wider.nd rfl (Or.inl rfl) (pe_callTy (call_listK (K := K)) (by rfl) T.z_list (by decide +kernel) (pa_cons (pv 0) pa_nil)))
  (pss_cons (ps_for PassesOwn.never rfl (pi_range1 (by rfl) T.z_range (pa_cons pe_int pa_nil)) (pg_name (i := 9) sc__law_wider.nd rfl (Or.inl rfl))
    (pss_one (ps_if (pt_cmpR op_gt (pe_op op_mod (pe_ix (ix_listK (K := K)) (pv 2) (pe_op op_add pe_int (pv 9)) (fun _ _ => rfl)) pe_int) pe_int (nomark _))
    (pss_one (ps_expr (pe_bmK (K := K) PySem.F.plainAttrs_list PySem.F.slot_list_insert PySem.F.type_list_insert mt_insert (pv 8) (pa_cons (pe_op op_mod (pe_ix (ix_listK (K := K)) (pv 2) (pe_op op_add pe_int (pv 9)) (fun _ _ => rfl)) (pe_op op_add (pe_callB (call_lenK (K := K)) (by rfl) T.z_len PySem.boot_len (pa_cons (pv 8) pa_nil)) pe_int)) (pa_cons (pe_ix (ix_listK (K := K)) (pv 7) (pv 9) (fun _ _ => rfl)) pa_nil)))))
    pss_nil)))
  (pss_cons (ps_if (pt_cmpR op_eq (pe_op op_mod (pe_ix (ix_listK (K := K)) (pv 2) pe_int (fun _ _ => rfl)) pe_int) pe_int (nomark _))
    (pss_one (ps_ret (pv 8)))
    pss_nil)
  (pss_cons (ps_setLc (i := 10) (own := [("_law_k", 9)]) (g := gName 9) (tt := tYes) (by rfl) sc__law_wider.nd rfl rfl (sw_true rfl rfl rfl (by decide +kernel)) (pi_range1 (by rfl) T.z_range (pa_cons pe_int pa_nil)) (blkOk_by (own := [("_law_k", 9)]) (N := n__law_wider) (sc := (defScope s__law_wider)) (by decide +kernel)) (fun _ _ _ _ _ => (pg_name (i := 9) sc__law_wider.nd rfl (Or.inl rfl))) (fun _ _ _ _ _ => pts_nil) (fun _ _ _ _ _ => (pe_ix (ix_listK (K := K)) (pv 4) (pe_op op_mod (pe_op op_add (pe_op op_add (pe_ix (ix_listK (K := K)) (pv 2) pe_int (fun _ _ => rfl)) pe_int) (pv 9)) (pe_callB (call_lenK (K := K)) (by rfl) T.z_len PySem.boot_len (pa_cons (pv 4) pa_nil))) (fun _ _ => rfl))))
  (pss_cons (ps_set (i := 11) sc__law_wider.nd rfl (Or.inl rfl) (pe_lst (pa_cons (pe_tup (pa_cons (pv 1) (pa_cons (pe_ix (ix_listK (K := K)) (pv 10) pe_int (fun _ _ => rfl)) pa_nil))) (pa_cons (pe_tup (pa_cons (pe_ix (ix_listK (K := K)) (pv 10) pe_int (fun _ _ => rfl)) (pa_cons (pe_ix (ix_listK (K := K)) (pv 10) pe_int (fun _ _ => rfl)) pa_nil))) (pa_cons (pe_tup (pa_cons (pe_ix (ix_listK (K := K)) (pv 10) pe_int (fun _ _ => rfl)) (pa_cons (pe_ix (ix_listK (K := K)) (pv 10) pe_int (fun _ _ => rfl)) pa_nil))) (pa_cons (pe_tup (pa_cons (pe_ix (ix_listK (K := K)) (pv 10) pe_int (fun _ _ => rfl)) (pa_cons pe_str pa_nil))) pa_nil))))))
  (pss_cons (ps_if (pt_cmpR op_eq (pe_op op_mod (pe_ix (ix_listK (K := K)) (pv 2) pe_int (fun _ _ => rfl)) pe_int) pe_int (nomark _))
    (pss_one (ps_set (i := 11) sc__law_wider.nd rfl (Or.inl rfl) (pe_revLK (K := K) (pv 11))))
    pss_nil)
  (pss_cons (ps_if (pt_cmpR op_eq (pe_op op_mod (pe_ix (ix_listK (K := K)) (pv 2) pe_int (fun _ _ => rfl)) pe_int) pe_int (nomark _))
    (pss_one (ps_ret (pe_op op_cat (pv 8) (pv 11))))
    pss_nil)
  (pss_one (ps_ret (pe_op op_cat (pv 11) (pv 8)))))))))))))))), ?_⟩
    obtain rfl : dvs = d.map vn := by rw [dal.nats, List.map_map]; rfl
    have hrl := hal.len
    have hbig : rules.length < sizeLine := by rw [sl64]; omega
    have n0 : ∀ (x : Nat), rules.length = x → x = rules.length := fun _ h => h.symm
    -- heads: the names
    refine ⟨_, rfl, ra, rfl, ⟨_, SqL.of (sF _ _ hra)⟩, fun D1 hD1 => ?_⟩
    refine lcmap (walk_list (K := K) (a := ra) (xs := rvs)) (r := rS) rules (fun r => [r.1]) hD1 sF hrl hbig (fun F6 H6 e6 => SqL.of (e6.sm _ _ hra)) (fun i r v F6 H6 H7 hr' e6 hy Qy q => ?_) (fun ws F1 H1 e1 fD1 al1 => ?_)
    · obtain ⟨rfl, hy⟩ := hy
      obtain ⟨r2, t, hr2, rfl, ht⟩ := rule_at hal hy
      rw [hr'] at hr2
      obtain rfl := Option.some.inj hr2
      exact ⟨t, _, rfl, SqT.of (e6.sm _ _ ht), rfl, _, _, rfl, _, _, rfl, rfl, rfl, _, rfl, q _ F6 H7 (Ext.refl e6.fh) rfl⟩
    -- heads: the bodies
    refine ⟨_, rfl, ra, rfl, ⟨_, SqL.of (e1.sm _ _ hra)⟩, fun D2 hD2 => ?_⟩
    refine lcmap (walk_list (K := K) (a := ra) (xs := rvs)) (r := rS) rules (fun r => r.2) hD2 e1.fh hrl hbig (fun F6 H6 e6 => SqL.of ((e1.trans e6).sm _ _ hra)) (fun i r v F6 H6 H7 hr' e6 hy Qy q => ?_) (fun ws2 F2 H2 e2 fD2 al2 => ?_)
    · obtain ⟨rfl, hy⟩ := hy
      obtain ⟨r2, t, hr2, rfl, ht⟩ := rule_at hal hy
      rw [hr'] at hr2
      obtain rfl := Option.some.inj hr2
      exact ⟨t, _, rfl, SqT.of ((e1.trans e6).sm _ _ ht), rfl, _, _, rfl, _, _, rfl, rfl, rfl, _, rfl, q _ F6 H7 (Ext.refl e6.fh) rfl⟩
    refine ⟨D1, D2, ws, ws2, rfl, rfl, e2.sm _ _ fD1, e2.fh _ _ fD2, ?_, fun hp hp0 => ?_⟩
    · have l1 := al1.len
      have l2 := al2.len
      rw [List.length_map] at l1 l2
      rw [sl64]
      omega
    have hws : ws ++ ws2 = ((wdHeads rules).map S).map V.str := by
      rw [al1.strs, al2.strs]
      unfold wdHeads
      simp [List.map_map, Function.comp_def]
    rw [hws]
    have hp2 : H2 hp = none := hp0
    have e2' := e1.trans e2
    have e3 : Ext F H (upd F2 hp (.lst (((wdHeads rules).map S).map V.str))) (upd H2 hp (.lst (((wdHeads rules).map S).map V.str))) := e2'.newF hp2
    have hz : Str.ofString "ABCDEFGHIJKLMNOPQRSTUVWXYZ" = S letters := by decide
    have hlet : letters.length = 26 := by decide
    refine ⟨_, congrArg V.str hz, fun D3 hD3 => ?_⟩
    refine lcfil (walk_str (z := S letters)) (r := rC) letters (fun c => decide (c ∉ (wdHeads rules).flatten)) (fun c => c) hD3 e3.fh (S_size letters) (by rw [sl64, hlet]; omega) (fun _ _ _ => trivial) (fun i c v F4 H4 H5 hc e hy Qy Qn qy qn => ?_) (fun ws3 F4 H4 e4 fD4 al4 => ?_)
    · obtain ⟨rfl, ch, h1, rfl⟩ := hy
      have h1 := S_get h1
      rw [hc] at h1
      obtain rfl := Option.some.inj h1
      refine ⟨rfl, _, rfl, ⟨_, rfl⟩, _, rfl, _, hp, (wdHeads rules).map S, rfl, rfl, .inl (SqL.of (e.hh _ _ upd_same)), ?_, ?_⟩
      · rw [map_len, S_empty, S_len, List.length_nil, Nat.mul_zero]
        have := wdHeads_few hok
        omega
      · refine ⟨c, _, rfl, rfl, _, rfl, ?_⟩
        rw [S_empty, join_S, joinL_nil, S_cps]
        by_cases hm : c ∈ (wdHeads rules).flatten
        · rw [decide_eq_true hm, Bool.not_true]
          exact iteF (qn (by simpa using hm) F4 H5 (Ext.refl e.fh))
        · rw [decide_eq_false hm, Bool.not_false]
          exact iteT ⟨_, rfl, qy (decide_eq_true hm) _ F4 H5 (Ext.refl e.fh) rfl⟩
    have hws3 : ws3 = (wdFree rules).map vc := by
      rw [List.map_id'] at al4
      exact al4.cs
    rw [hws3] at fD4
    have e4' := e3.trans e4
    have hd4 : H4 da = some (.lst (d.map vn)) := e4'.sm _ _ hda
    have hf4 : H4 D3 = some (.lst ((wdFree rules).map vc)) := e4.fh _ _ fD4
    have hra4 : H4 ra = some (.lst rvs) := e4'.sm _ _ hra
    have al5 : Al rRule F4 rvs rules := hal.mono e4'.ff
    clear hD1 hD2 hD3 al1 al2 al4 fD1 fD2 e1 e2 e3 e4 e2'
    generalize hfr : wdFree rules = fr at hf4 hfree fD4
    have f1 : 1 ≤ fr.length := by omega
    have pos : (0 : Int) < (((fr.map vc).length : Nat) : Int) := by rw [List.length_map]; omega
    -- never, apart
    refine ⟨_, rfl, _, rfl, da, _, _, vn (dg d (0)), rfl, rfl, SqL.of hd4, at_of (j := 0) (by first | rfl | omega) (dg_at (by omega)), _, rfl, D3, _, rfl, .inl (SqL.of hf4), _, _, rfl, rfl, pos, D3, _, _, vc (rd fr (dg d 0)), rfl, rfl, SqL.of hf4, at_of (j := dg d 0 % fr.length) (by rw [List.length_map]; omega) (rd_at f1), ?_⟩
    refine ⟨_, rfl, _, rfl, da, _, _, vn (dg d (0)), rfl, rfl, SqL.of hd4, at_of (j := 0) (by first | rfl | omega) (dg_at (by omega)), _, _, rfl, rfl, _, rfl, D3, _, rfl, .inl (SqL.of hf4), _, _, rfl, rfl, pos, D3, _, _, vc (rd fr (dg d 0 + 1)), rfl, rfl, SqL.of hf4, at_of (j := (dg d 0 + 1) % fr.length) (by rw [List.length_map]; exact (Int.natCast_emod (dg d 0 + 1) fr.length).symm) (rd_at f1), ?_⟩
    unfold gName
    dsimp only
    unfold tSeq tAsg
    dsimp only
    refine more_use (b := root) (n := rd fr (dg d 0)) (p := rd fr (dg d 0 + 1)) rfl rfl rfl e4'.fh fun v F5 H5 e5 hv => ?_
    obtain ⟨ma, mvs, rfl, hma, mal⟩ := hv
    have e5' := e4'.trans e5
    have al6 : Al rRule F5 rvs rules := al5.mono e5.ff
    refine ⟨_, rfl, ra, rvs, rfl, .inl (SqL.of (e5.hh _ _ hra4)), fun W hW => ?_⟩
    have hW0 : H W = none := e5'.hh.free hW
    have hWF : F5 W = none := e5'.fh.free hW
    have e6 := e5'.newM hW (o := .lst rvs)
    have hD3 : F5 D3 = some (.lst (fr.map vc)) := e5.ff _ _ fD4
    have hdF : F5 da = some (.lst (d.map vn)) := e5'.ff _ _ hda
    generalize hmore : wdMore root (rd fr (dg d 0)) (rd fr (dg d 0 + 1)) = more at mal
    have hm3 : more.length = 3 := by rw [← hmore]; rfl
    -- for k in range(3): the insertions
    refine ⟨3, rfl, by omega, by omega, ?_⟩
    rw [show (3 : Int).toNat = 3 from rfl]
    let Pv : Nat → L2.St → Hp → Prop := fun i σ H' => ∃ (x9 : Option V) (wvs : List V), σ = [some (.ref ra), some (vc root), some (.ref da), some (.ref hp), some (.ref D3), some (vc (rd fr (dg d 0))), some (vc (rd fr (dg d 0 + 1))), some (.ref ma), some (.ref W), x9, none, none, none, none, none] ∧
      Ext F H F5 H' ∧ H' W = some (.lst wvs) ∧ wvs.length ≤ 8 + i ∧ Al rRule F5 wvs ((List.range i).foldl (wdStep d more) rules)
    refine ⟨fun i m σ H => m = 3 - i ∧ i ≤ 3 ∧ Pv i σ H, ⟨3, rfl, Nat.zero_le _, ⟨none, rvs, rfl, e6, upd_same, by omega, al6⟩⟩, ?_⟩
    rintro i m σ Hq ⟨rfl, hi3, hPv⟩
    by_cases hi : i < 3
    · refine .inr ⟨hi, Pv (i + 1), fun σ' H' p' => ⟨3 - (i + 1), by omega, rfl, hi, p'⟩, fun x H6 y => ?_⟩
      obtain ⟨e, y⟩ := y
      subst e y
      obtain ⟨x9, wvs, rfl, e6, hW6, hwl, al⟩ := hPv
      have hd6 : H6 da = some (.lst (d.map vn)) := e6.fh _ _ hdF
      have hm6 : H6 ma = some (.lst mvs) := e6.fh _ _ hma
      have hst : (List.range (i + 1)).foldl (wdStep d more) rules = wdStep d more ((List.range i).foldl (wdStep d more) rules) i := by rw [List.range_succ, List.foldl_append]; rfl
      have hwv := al.len
      generalize (List.range i).foldl (wdStep d more) rules = wr at al hwv hst
      refine ⟨_, rfl, _, rfl, _, _, rfl, rfl, da, _, _, vn (dg d (1 + i)), rfl, rfl, SqL.of hd6, at_of (j := 1 + i) (by first | rfl | omega) (dg_at (by omega)), _, _, rfl, rfl, (by show (0 : Int) < 3; decide), _, _, rfl, rfl, _, rfl, ?_⟩
      rw [show wdStep d more wr i = if 0 < dg d (1 + i) % 3 then insAt wr (dg d (4 + i) % (wr.length + 1)) (more[i]?.getD (0, [])) else wr from rfl] at hst
      by_cases h3 : 0 < dg d (1 + i) % 3
      · rw [decide_eq_true (show (0 : Int) < ((dg d (1 + i) : Nat) : Int) % 3 by omega)]
        rw [if_pos h3] at hst
        have hmi : more[i]? = some (more[i]?.getD (0, [])) := by
          rw [List.getElem?_eq_getElem (by omega)]
          rfl
        obtain ⟨mv, hmv, hmr⟩ := mal.get' hmi
        have hlt := Nat.mod_lt (dg d (4 + i)) (show wr.length + 1 > 0 by omega)
        have ez : ((dg d (4 + i) : Nat) : Int) % (((wvs.length : Nat) : Int) + 1) = ((dg d (4 + i) % (wr.length + 1) : Nat) : Int) := by rw [hwv]; push_cast; rfl
        refine iteT ⟨_, rfl, .inl ⟨rfl, _, SqL.of hW6⟩, _, rfl, _, rfl, _, _, rfl, rfl, da, _, _, vn (dg d (4 + i)), rfl, rfl, SqL.of hd6, at_of (j := 4 + i) (by first | rfl | omega) (dg_at (by omega)), _, rfl, W, _, rfl, .inl (SqL.of hW6), _, _, rfl, rfl, _, _, rfl, rfl, by omega, _, rfl, _, rfl, ma, _, _, mv, rfl, rfl, SqL.of hm6, at_of (j := i) (by omega) hmv, ?_⟩
        refine ⟨W, wvs, _, _, rfl, rfl, hW6, by rw [sl64]; omega, by rw [ez]; omega, by rw [ez]; omega, _, _, rfl, e6.set hW0 hWF, upd_same, ?_, ?_⟩
        · simp only [List.length_append, List.length_cons, List.length_nil, List.length_take, List.length_drop]
          omega
        · rw [ez, Int.toNat_natCast]
          rw [hst]
          exact Al.ins _ al hmr
      · rw [decide_eq_false (show ¬ (0 : Int) < ((dg d (1 + i) : Nat) : Int) % 3 by omega)]
        rw [if_neg h3] at hst
        exact iteF ⟨_, _, rfl, e6, hW6, by omega, by rw [hst]; exact al⟩
    · have e : i = 3 := by omega
      subst e
      refine .inl ⟨Nat.le_refl _, ?_⟩
      obtain ⟨x9, wvs, rfl, e6, hW6, hwl, al⟩ := hPv
      have hd6 : Hq da = some (.lst (d.map vn)) := e6.fh _ _ hdF
      refine ⟨_, rfl, da, _, _, vn (dg d (7)), rfl, rfl, SqL.of hd6, at_of (j := 7) (by first | rfl | omega) (dg_at (by omega)), _, _, rfl, rfl, (by show (0 : Int) < 2; decide), rfl, _, rfl, ?_⟩
      rw [dec_ii]
      have hw7 : lawWider rules root d = if dg d 7 % 2 = 0 then wdWide rules root d else _ := rfl
      have hwd : wdWide rules root d = (List.range 3).foldl (wdStep d more) rules := by unfold wdWide; rw [hfr, hmore]
      by_cases h7 : dg d 7 % 2 = 0
      · rw [decide_eq_true (show ((dg d 7 : Nat) : Int) % 2 = 0 by omega)]
        refine iteT ⟨_, rfl, k W wvs F5 Hq e6 hW0 hWF hW6 ?_⟩
        rw [hw7, if_pos h7, hwd]
        exact al
      · rw [decide_eq_false (show ¬ ((dg d 7 : Nat) : Int) % 2 = 0 by omega)]
        refine iteF ?_
        have hf6 : Hq D3 = some (.lst (fr.map vc)) := e6.fh _ _ hD3
        refine ⟨3, rfl, by omega, by omega, fun D4 hD4 => ?_⟩
        rw [show (3 : Int).toNat = 3 from rfl]
        refine lc_rng (g := gName 9) (n := 3) (r := rC) (fun i => rd fr (dg d 0 + 2 + i)) hD4 e6.fh (by rw [sl64]; decide) (fun i F7 H7 hi e7 Qy q => ?_) (fun ws4 F7 H7 e7 fD7 al7 => ?_)
        · have hd7 : H7 da = some (.lst (d.map vn)) := e7.hh _ _ hd6
          have hf7 : H7 D3 = some (.lst (fr.map vc)) := e7.hh _ _ hf6
          have ez : ((dg d 0 : Nat) : Int) + 2 + (0 + ((i : Nat) : Int)) = ((dg d 0 + 2 + i : Nat) : Int) := by omega
          refine ⟨rfl, _, rfl, _, rfl, da, _, _, vn (dg d (0)), rfl, rfl, SqL.of hd7, at_of (j := 0) (by first | rfl | omega) (dg_at (by omega)), _, _, rfl, rfl, _, rfl, _, _, rfl, rfl, _, rfl, D3, _, rfl, .inl (SqL.of hf7), _, _, rfl, rfl, pos, D3, _, _, vc (rd fr (dg d 0 + 2 + i)), rfl, rfl, SqL.of hf7, at_of (j := (dg d 0 + 2 + i) % fr.length) (by rw [List.length_map, ez]; exact (Int.natCast_emod (dg d 0 + 2 + i) fr.length).symm) (rd_at f1), ?_⟩
          exact q _ F7 H7 (Ext.refl e7.fh) rfl
        have hws4 : ws4 = ((List.range 3).map fun i => rd fr (dg d 0 + 2 + i)).map vc := al7.cs
        rw [hws4] at fD7
        refine chain_use (b := root) (x := rd fr (dg d 0 + 2 + 0)) (y := rd fr (dg d 0 + 2 + 1)) (z := rd fr (dg d 0 + 2 + 2)) (D := D4) rfl rfl fD7 e7.fh fun v F8 H8 e8 hv => ?_
        have e8' := (e6.trans e7).trans e8
        have hd8 : H8 da = some (.lst (d.map vn)) := e8.hh _ _ (e7.hh _ _ hd6)
        have hW8 : H8 W = some (.lst wvs) := e8.hh _ _ (e7.hh _ _ hW6)
        have al8 := (al.mono e7.ff).mono e8.ff
        obtain ⟨ca, cvs, rfl, hca, cal⟩ := hv
        have hw9 : lawWider rules root d = (if dg d 9 % 2 = 1 then wdWide rules root d ++ (if dg d 8 % 2 = 1 then (wdChain root (rd fr (dg d 0 + 2 + 0)) (rd fr (dg d 0 + 2 + 1)) (rd fr (dg d 0 + 2 + 2))).reverse else wdChain root (rd fr (dg d 0 + 2 + 0)) (rd fr (dg d 0 + 2 + 1)) (rd fr (dg d 0 + 2 + 2))) else (if dg d 8 % 2 = 1 then (wdChain root (rd fr (dg d 0 + 2 + 0)) (rd fr (dg d 0 + 2 + 1)) (rd fr (dg d 0 + 2 + 2))).reverse else wdChain root (rd fr (dg d 0 + 2 + 0)) (rd fr (dg d 0 + 2 + 1)) (rd fr (dg d 0 + 2 + 2))) ++ wdWide rules root d) := by
          rw [hw7, if_neg h7, ← hfr]
        refine ⟨_, rfl, da, _, _, vn (dg d (8)), rfl, rfl, SqL.of hd8, at_of (j := 8) (by first | rfl | omega) (dg_at (by omega)), _, _, rfl, rfl, (by show (0 : Int) < 2; decide), rfl, _, rfl, ?_⟩
        rw [dec_ii]
        by_cases h8' : dg d 8 % 2 = 1
        · rw [decide_eq_true (show ((dg d 8 : Nat) : Int) % 2 = 1 by omega)]
          refine iteT ?_
          have hc8 : H8 ca = some (.lst cvs) := e8.fh _ _ hca
          have lw := cal.len
          have lc4 : cvs.length = 4 := lw
          rw [if_pos h8'] at hw9
          refine ⟨_, rfl, ca, cvs, rfl, SqL.of hc8, fun R hR => ?_⟩
          have e9 := e8'.newF hR (o := .lst cvs.reverse)
          have e9' := (Ext.refl e8.fh).newF hR (o := .lst cvs.reverse)
          have hd9 := e9'.hh _ _ hd8
          have hW9 := e9'.hh _ _ hW8
          have al9 := al8.mono e9'.ff
          have cal9 := (Al.rev cal).mono e9'.ff
          have hR9 : upd H8 R (.lst cvs.reverse) R = some (.lst cvs.reverse) := upd_same
          refine ⟨_, rfl, da, _, _, vn (dg d (9)), rfl, rfl, SqL.of hd9, at_of (j := 9) (by first | rfl | omega) (dg_at (by omega)), _, _, rfl, rfl, (by show (0 : Int) < 2; decide), rfl, _, rfl, ?_⟩
          rw [dec_ii]
          by_cases h9 : dg d 9 % 2 = 1
          · rw [decide_eq_true (show ((dg d 9 : Nat) : Int) % 2 = 1 by omega)]
            refine iteT ⟨_, rfl, _, rfl, W, R, wvs, cvs.reverse, rfl, rfl, hW9, hR9, by rw [sl64, List.length_reverse]; omega, fun l hl => k l _ _ _ (e9.newM hl) (e9.hh.free hl) (e9.fh.free hl) upd_same ?_⟩
            rw [hw9, if_pos h9, hwd]
            exact al9.app cal9
          · rw [decide_eq_false (show ¬ ((dg d 9 : Nat) : Int) % 2 = 1 by omega)]
            refine iteF ⟨_, rfl, _, rfl, R, W, cvs.reverse, wvs, rfl, rfl, hR9, hW9, by rw [sl64, List.length_reverse]; omega, fun l hl => k l _ _ _ (e9.newM hl) (e9.hh.free hl) (e9.fh.free hl) upd_same ?_⟩
            rw [hw9, if_neg h9, hwd]
            exact cal9.app al9
        · rw [decide_eq_false (show ¬ ((dg d 8 : Nat) : Int) % 2 = 1 by omega)]
          refine iteF ?_
          have hc8 : H8 ca = some (.lst cvs) := e8.fh _ _ hca
          have lw := cal.len
          have lc4 : cvs.length = 4 := lw
          rw [if_neg h8'] at hw9
          refine ⟨_, rfl, da, _, _, vn (dg d (9)), rfl, rfl, SqL.of hd8, at_of (j := 9) (by first | rfl | omega) (dg_at (by omega)), _, _, rfl, rfl, (by show (0 : Int) < 2; decide), rfl, _, rfl, ?_⟩
          rw [dec_ii]
          by_cases h9 : dg d 9 % 2 = 1
          · rw [decide_eq_true (show ((dg d 9 : Nat) : Int) % 2 = 1 by omega)]
            refine iteT ⟨_, rfl, _, rfl, W, ca, wvs, cvs, rfl, rfl, hW8, hc8, by rw [sl64]; omega, fun l hl => k l _ F8 _ (e8'.newM hl) (e8'.hh.free hl) (e8.fh.free hl) upd_same ?_⟩
            rw [hw9, if_pos h9, hwd]
            exact al8.app cal
          · rw [decide_eq_false (show ¬ ((dg d 9 : Nat) : Int) % 2 = 1 by omega)]
            refine iteF ⟨_, rfl, _, rfl, ca, W, cvs, wvs, rfl, rfl, hc8, hW8, by rw [sl64]; omega, fun l hl => k l _ F8 _ (e8'.newM hl) (e8'.hh.free hl) (e8.fh.free hl) upd_same ?_⟩
            rw [hw9, if_neg h9, hwd]
            exact cal.app al8
end
end SF
namespace SF
open PySem PySem.Spec PyProof.Rows L2
instance {rules : List Rule} : Decidable (RulesOk rules) := by unfold RulesOk; infer_instance
@[irreducible] def w_wider (r : List Rule) (b : Nat) (d : List Nat) : M (List Rule) := M.gd (10 ≤ d.length ∧ RulesOk r ∧ r.length ≤ 8 ∧ 23 ≤ (wdFree r).length ∧ (lawWider r b d).length ≤ 1000 ∧ ∀ q ∈ lawWider r b d, q.2.length ≤ 1000) (.ok (lawWider r b d))
@[irreducible] def w_lawuseful (r : List Rule) (b : Nat) : M (List Nat) := M.gd (RulesOk r ∧ r.length ≤ 16 ∧ (lawUseful r b).length ≤ 1000) (.ok (lawUseful r b))
section
variable {P : Program} {w : World} {K : PySem.W.Frag} {mg : Str → Option Value} {base : Heap} {a : Ad}
theorem ok_w_useful (T : Txt K mg a) : FnOk P w K mg base CX0 1 a.Grammar_useful a.d_Grammar_useful ["self"] (Pm False cl0 (rac (fz (rGr a.Grammar a.Table)) ran) (nw rNat) (fun x => w_useful x.1)) :=
  ((ok_useful T).mono (by decide)).imp fun vs H Q E h => by
    obtain ⟨F, ⟨g, u⟩, sF, ⟨v1, us1, rfl, h1, rfl⟩, h⟩ := h
    unfold w_useful at h
    obtain ⟨hg, hb⟩ := h1
    exact ⟨F, v1, g, rfl, sF, hg, fun l hl => h _ F _ ((Xt.refl sF).newM hl) ⟨l, _, rfl, hl, sF.free hl, upd_same, al_nats _, sz1000 hb.u⟩⟩
theorem ok_w_isnum (T : Txt K mg a) : FnOk P w K mg base CX0 1 a._law_is_number a.d__law_is_number ["_law_x"] (Pm False cl0 (rac (fz rNat) ran) (fz rB) (fun x => w_isnum x.1)) :=
  ((ok_isnum T).mono (by decide)).imp fun vs H Q E h => by
    obtain ⟨F, ⟨n, u⟩, sF, ⟨v1, us1, rfl, h1, rfl⟩, h⟩ := h
    unfold w_isnum at h
    exact ⟨_, by rw [show v1 = _ from h1], h _ F H (Xt.refl sF) rfl⟩
theorem ok_w_wider (T : Txt K mg a) : FnOk P w K mg base CX0 1 a._law_wider a.d__law_wider ["_law_rules", "_law_base", "_law_draws_here"] (Pm False cl0 (rac (fz (qL (rP rC qS))) (rac (fz rC) (rac (fz (qL rNat)) ran))) (nw (rP rC qS)) (fun x => w_wider x.1 x.2.1 x.2.2.1)) :=
  ((ok_wider T).mono (by decide)).imp fun vs H Q E h => by
    obtain ⟨F, ⟨r, b, d, u⟩, sF, ⟨v1, us1, rfl, h1, v2, us2, rfl, h2, v3, us3, rfl, h3, rfl⟩, h⟩ := h
    unfold w_wider at h
    obtain ⟨⟨g1, g2, g3, g4, g5, g6⟩, h⟩ := gd_po h
    exact ⟨F, v1, v3, r, b, d, by rw [show v2 = _ from h2], sF, rules_down h1, nats_down h3, g1, g2, g3, g4, fun l rvs F' H' e hl fl hh al => h _ F' H' e.w ⟨l, rvs, rfl, hl, fl, hh, al_up al g6, sz1000 g5⟩⟩
theorem ok_w_lawuseful (T : Txt K mg a) : FnOk P w K mg base CX0 2 a._law_useful a.d__law_useful ["_law_rules", "_law_base"] (Pm False cl0 (rac (lb (rP rC qS)) (rac (fz rC) ran)) (fz (qL rNat)) (fun x => w_lawuseful x.1 x.2.1)) :=
  ((ok_lawuseful T).mono (by decide)).imp fun vs H Q E h => by
    obtain ⟨F, ⟨r, b, u⟩, sF, ⟨v1, us1, rfl, h1, v2, us2, rfl, h2, rfl⟩, h⟩ := h
    unfold w_lawuseful at h
    obtain ⟨⟨g1, g2, g3⟩, h⟩ := gd_po h
    obtain ⟨l, rvs, rfl, hl, al, _⟩ := h1
    exact ⟨F, l, rvs, r, b, by rw [show v2 = _ from h2], sF, hl, al_down al, g1, g2, fun v F' H' e hr => h v F' H' e.w (nats_up hr g3)⟩
end
end SF
namespace SF
open PySem PySem.Spec PyProof.Rows L2
@[irreducible] noncomputable def m_Grammar_alphabet (self_1 : Gram) : M (List Nat) := (M.lc (fun x8 => M.ok true) (fun x8 => ((M.of self_1.rules[x8]?).bd fun t14 => M.ok t14.2)) self_1.useful).bd fun bodies_15 => (((M.sc2 (fun x18 => (M.ok x18)) (fun x18 y24 => (M.ok (!(isName [y24])))) (fun x18 y24 => (M.ok y24)) bodies_15 []).bd fun t28 => M.ok ((sortN t28).map fun c => [c])).bd fun t29 => M.join [] t29)
def sp_m_Grammar_alphabet (a : Ad) : Sp := Pm False (fun _ => 0) (rac (fz (rGr a.Grammar a.Table)) ran) (fz qS) (fun x => m_Grammar_alphabet x.1)
theorem ok_m_Grammar_alphabet {P : Program} {w : World} {K : PySem.W.Frag} {mg : Str → Option Value} {base : Heap} {a : Ad} (T : Txt K mg a) : FnOk P w K mg base CX0 2 a.Grammar_alphabet a.d_Grammar_alphabet ["self"] (sp_m_Grammar_alphabet a) := by
  have G_is_name := ok_is_name (P := P) (w := w) (base := base) T
  refine T.f_Grammar_alphabet.ok sc_Grammar_alphabet (fun vs H Q E h => ?_) (fun cdv A outer s H vs Q E hr h => ?_)
  · obtain ⟨F, x, _, hR, _⟩ := h
    obtain ⟨_, _, rfl, _, rfl⟩ := hR
    rfl
  obtain ⟨F, ⟨self_1, u0⟩, sF, hR, h⟩ := h
  obtain ⟨v2, _, rfl, h3, rfl⟩ := hR
  refine ⟨_, (pss_cons (ps_setLc (i := 1) (own := [("number", 2)]) (g := gName 2) (tt := tYes) (by rfl) sc_Grammar_alphabet.nd rfl rfl (sw_true rfl rfl rfl (by decide +kernel)) (pi_listK (K := K) (pe_fldK (K := K) (pv 0))) (blkOk_by (own := [("number", 2)]) (N := n_Grammar_alphabet) (sc := (defScope s_Grammar_alphabet)) (by decide +kernel)) (fun _ _ _ _ _ => (pg_name (i := 2) sc_Grammar_alphabet.nd rfl (Or.inl rfl))) (fun _ _ _ _ _ => pts_nil) (fun _ _ _ _ _ => (pe_ix (ix_tupK (K := K)) (pe_ix (ix_listK (K := K)) (pe_fldK (K := K) (pv 0)) (pv 2) (fun _ _ => rfl)) pe_int (fun _ _ => rfl))))
  (pss_cons (ps_ret (pe_joinK (K := K) pe_str (pe_callB (cr_sortedSetK (P := P) (w := w) (by rfl)) (by rfl) T.z_sorted (by decide +kernel) (pa_cons (pe_scTK (P := P) (w := w) (own := [("body", 3), ("char", 4)]) (vs1 := [4]) (tt := tYes) (by rfl) sc_Grammar_alphabet.nd (pi_listK (K := K) (pv 1)) (blkOk_by (own := [("body", 3), ("char", 4)]) (N := n_Grammar_alphabet) (sc := (defScope s_Grammar_alphabet)) (by decide +kernel)) (by decide) (fun _ _ _ _ _ => (pg_name (i := 3) sc_Grammar_alphabet.nd rfl (Or.inl rfl))) (fun _ _ _ _ _ => pts_nil) (fun _ _ _ _ _ => (pi_str (pv 3))) (fun _ _ _ _ _ => (pg_name (i := 4) sc_Grammar_alphabet.nd rfl (Or.inl rfl))) (fun _ _ _ _ _ => (pts_one (pt_not (pt_val (pe_call G_is_name (hr.mono (by decide)) (by rfl) T.m_is_name T.f_is_name.kp T.b_is_name .nil pass0 (pa_cons (pv 4) pa_nil)))))) (fun _ _ _ _ _ => (pv 4))) pa_nil))))
  pss_nil)), ?_⟩
  have e := Xt.refl sF
  let c : Cxt (List Nat) := ⟨⟨False, E, (fun _ => 0)⟩, Q, (fz qS), F, H⟩
  have h : Po c (m_Grammar_alphabet self_1) := h
  unfold m_Grammar_alphabet at h
  refine sq_set (c := c) (e_frz (e_lc (w' := c.w) (i_list (e_lb (e_fld (e_var (r := (rGr a.Grammar a.Table)) (i := 0) h3 rfl) T.k_Grammar T.na_Grammar__useful gr_useful))) (fun F12 x8 σ2 => ∃ v10, σ2 = [some v2, none, some v10, none, none] ∧ rNat F12 v10 x8) (fun Q e h k => k _ rfl ⟨_, rfl, h⟩) (fun x8 σ2 F12 H13 e9 tg => by obtain ⟨v10, rfl, h11⟩ := tg; exact t_yes) (fun x8 σ2 F12 H13 e9 tg => by obtain ⟨v10, rfl, h11⟩ := tg; exact (e_2_1 (e_ixU (e_lb (e_fld (((e_var (r := (rGr a.Grammar a.Table)) (i := 0) h3 rfl)).up e9) T.k_Grammar T.na_Grammar__rules gr_rules)) (e_var (r := rNat) (i := 2) h11 rfl)))))) e h (fun v => [some v2, some v, none, none, none]) (fun _ => rfl) fun bodies_15 v16 F4 H5 e6 e7 h17 h => ?_
  exact sq_ret (c := c) (e_join (e_str (x := []) (by decide +kernel) (by decide +kernel)) (e_nlb (e_sortSet (e_scT2 (w' := c.w) (i_list (e_lb (e_var (r := (qL qS)) (i := 1) h17 rfl))) (fun F22 x18 σ2 => ∃ v20, σ2 = [some v2, some v16, none, some v20, none] ∧ qS F22 v20 x18) (fun s ⟨v, e, h⟩ => ⟨v, e, Mono.mono (r := qS) s h⟩) (fun Q e h k => k _ rfl ⟨_, rfl, h⟩) (fun x18 σ2 F22 H23 e19 tg => by obtain ⟨v20, rfl, h21⟩ := tg; exact (i_str (e_var (r := qS) (i := 3) h21 rfl))) (fun F22 x18 y24 σ3 => ∃ v20 v26, σ3 = [some v2, some v16, none, some v20, some v26] ∧ qS F22 v20 x18 ∧ rC F22 v26 y24) (fun s ⟨v, u, e, h, h2⟩ => ⟨v, u, e, Mono.mono (r := qS) s h, Mono.mono (r := rC) s h2⟩) (fun Q ⟨v, e, h⟩ s h2 k => by subst e; exact k _ rfl ⟨v, _, rfl, h, h2⟩) (fun x18 y24 σ3 F22 H23 e25 tg => by obtain ⟨v20, v26, rfl, h21, h27⟩ := tg; exact (t_not (t_val (e_isname (e_cs (e_var (r := rC) (i := 4) h27 rfl)))))) (fun x18 y24 σ3 F22 H23 e25 tg => by obtain ⟨v20, v26, rfl, h21, h27⟩ := tg; exact (e_var (r := rC) (i := 4) h27 rfl)))))) e7 h fun _ _ q => q

@[irreducible] noncomputable def m_law (script_1 : (List Int)) : M Bool := ((w_cell script_1 0).bd fun t8 => w_draws t8 42).bd fun draws_here_9 => ((w_names draws_here_9).bd fun t16 => M.of t16[0]?).bd fun base_17 => ((w_grammar draws_here_9).bd fun t25 => ((w_cell script_1 1).bd fun t24 => w_draws t24 10).bd fun t26 => w_wider t25 base_17 t26).bd fun rules_27 => (M.ok [97, 98, 99, 100, 101, 102, 103, 104, 105, 106, 107, 108, 109, 110, 111, 112, 113, 114, 115, 116, 117, 118, 119, 120, 121, 122, 48, 49, 50, 51, 52, 53, 54, 55, 56, 57, 40, 41, 91, 93, 123, 125, 43, 45, 42, 47, 44, 46, 59, 58, 33, 63]).bd fun every_38 => (((w_cell script_1 2).bd fun t45 => M.ok t45).bd fun t46 => M.gd (0 < 98) (M.ok (t46 % (98 : Int)).toNat)).bd fun at_47 => M.jn (fun (s53 : (List (Nat × (List Nat)))) => (w_Grammar s53 base_17).bd fun grammar_here_85 => (w_lawuseful s53 base_17).bd fun due_92 => ((M.lc (fun x99 => M.ok true) (fun x99 => ((M.of s53[x99]?).bd fun t105 => M.ok t105.2)) due_92).bd fun t106 => M.join [] t106).bd fun bodies_107 => (M.ok (([33, 40, 41, 42, 43, 44, 45, 46, 47, 48, 49, 50, 51, 52, 53, 54, 55, 56, 57, 58, 59, 63, 91, 93, 97, 98, 99, 100, 101, 102, 103, 104, 105, 106, 107, 108, 109, 110, 111, 112, 113, 114, 115, 116, 117, 118, 119, 120, 121, 122, 123, 125].filter fun x114 => (decide (x114 ∈ bodies_107))).map fun x114 => [x114])).bd fun signs_here_120 => (w_useful grammar_here_85).bd fun told_127 => M.ite (M.ite (M.ok (!true)) (M.ok true) (M.ite (((M.lc (fun x135 => M.ok true) (fun x135 => (w_isnum x135)) told_127).bd fun t141 => M.ok (t141.all id)).bd fun t142 => M.ok (!t142)) (M.ok true) (M.gd (Deep.okd (qL rNat) told_127 = true ∧ Deep.okd (qL rNat) due_92 = true) (M.ok (!decide (told_127 = due_92)))))) ((M.ok false)) ((M.ok 99).bd fun t157 => (M.snoc told_127 t157).bd fun told_148 => (m_Grammar_alphabet grammar_here_85).bd fun alphabet_162 => M.ite (M.ite (M.ok (!true)) (M.ok true) ((M.join [] signs_here_120).bd fun t165 => M.ok (!decide (alphabet_162 = t165)))) ((M.ok false)) ((M.ite ((w_useful grammar_here_85).bd fun t171 => M.gd (Deep.okd (qL rNat) t171 = true ∧ Deep.okd (qL rNat) due_92 = true) (M.ok (decide (t171 = due_92)))) (M.ite ((m_Grammar_alphabet grammar_here_85).bd fun t172 => M.ok (decide (t172 = alphabet_162))) ((w_rules grammar_here_85).bd fun t173 => M.gd (Deep.okd (qL (rP rC qS)) t173 = true ∧ Deep.okd (qL (rP rC qS)) s53 = true) (M.ok (decide (t173 = s53)))) (M.ok false)) (M.ok false))))) fun j63 => M.ite (M.ok (decide (at_47 < 49))) ((((w_cell script_1 3).bd fun t67 => M.ok t67).bd fun t68 => M.gd (0 < (rules_27.length + 1)) (M.ok (t68 % ((rules_27.length + 1) : Int)).toNat)).bd fun t78 => (M.ok (base_17, (cutG every_38 (some ((at_47 : Nat) : Int)) (some (((at_47 + 4) : Nat) : Int))))).bd fun t79 => (M.ins rules_27 t78 t79).bd fun rules_69 => j63 rules_69) (j63 rules_27)
def sp_m_law (a : Ad) (K : PySem.W.Frag) : Sp := Pm False (fun _ => 0) (rac (scr K) ran) (fz rB) (fun x => m_law x.1)
theorem ok_m_law {P : Program} {w : World} {K : PySem.W.Frag} {mg : Str → Option Value} {base : Heap} {a : Ad} (T : Txt K mg a) : FnOk P w K mg base CX0 6 a.law a.d_law ["_law_script"] (sp_m_law a K) := by
  have G_Grammar___init__ := ok_Grammar (P := P) (w := w) (base := base) T
  have G_Grammar_alphabet := ok_m_Grammar_alphabet (P := P) (w := w) (base := base) T
  have G_Grammar_rules := ok_w_rules (P := P) (w := w) (base := base) T
  have G_Grammar_useful := ok_w_useful (P := P) (w := w) (base := base) T
  have G__law_cell := ok_w_cell (P := P) (w := w) (base := base) T
  have G__law_draws := ok_w_draws (P := P) (w := w) (base := base) T
  have G__law_grammar := ok_w_grammar (P := P) (w := w) (base := base) T
  have G__law_is_number := ok_w_isnum (P := P) (w := w) (base := base) T
  have G__law_names := ok_w_names (P := P) (w := w) (base := base) T
  have G__law_useful := ok_w_lawuseful (P := P) (w := w) (base := base) T
  have G__law_wider := ok_w_wider (P := P) (w := w) (base := base) T
  have hbK_Grammar := kw_Grammar T
  refine T.f_law.ok sc_law (fun vs H Q E h => ?_) (fun cdv A outer s H vs Q E hr h => ?_)
  · obtain ⟨F, x, _, hR, _⟩ := h
    obtain ⟨_, _, rfl, _, rfl⟩ := hR
    rfl
  obtain ⟨F, ⟨script_1, u0⟩, sF, hR, h⟩ := h
  obtain ⟨v2, _, rfl, h3, rfl⟩ := hR
  refine ⟨_, (pss_cons (ps_set (i := 1) sc_law.nd rfl (Or.inl rfl) (pe_call G__law_draws (hr.mono (by decide)) (by rfl) T.m__law_draws T.f__law_draws.kp T.b__law_draws .nil pass0 (pa_cons (pe_call G__law_cell (hr.mono (by decide)) (by rfl) T.m__law_cell T.f__law_cell.kp T.b__law_cell .nil pass0 (pa_cons (pv 0) (pa_cons pe_int pa_nil))) (pa_cons pe_int pa_nil))))
  (pss_cons (ps_set (i := 2) sc_law.nd rfl (Or.inl rfl) (pe_ix (ix_listK (K := K)) (pe_call G__law_names (hr.mono (by decide)) (by rfl) T.m__law_names T.f__law_names.kp T.b__law_names .nil pass0 (pa_cons (pv 1) pa_nil)) pe_int (fun _ _ => rfl)))
  (pss_cons (ps_set (i := 3) sc_law.nd rfl (Or.inr rfl) (pe_call G__law_wider (hr.mono (by decide)) (by rfl) T.m__law_wider T.f__law_wider.kp T.b__law_wider .nil pass0 (pa_cons (pe_call G__law_grammar (hr.mono (by decide)) (by rfl) T.m__law_grammar T.f__law_grammar.kp T.b__law_grammar .nil pass0 (pa_cons (pv 1) pa_nil)) (pa_cons (pv 2) (pa_cons (pe_call G__law_draws (hr.mono (by decide)) (by rfl) T.m__law_draws T.f__law_draws.kp T.b__law_draws .nil pass0 (pa_cons (pe_call G__law_cell (hr.mono (by decide)) (by rfl) T.m__law_cell T.f__law_cell.kp T.b__law_cell .nil pass0 (pa_cons (pv 0) (pa_cons pe_int pa_nil))) (pa_cons pe_int pa_nil))) pa_nil)))))
  (pss_cons (ps_set (i := 4) sc_law.nd rfl (Or.inl rfl) pe_str)
  (pss_cons (ps_set (i := 5) sc_law.nd rfl (Or.inl rfl) (pe_op op_mod (pe_callTy call_int1 (by rfl) T.z_int (by decide +kernel) (pa_cons (pe_call G__law_cell (hr.mono (by decide)) (by rfl) T.m__law_cell T.f__law_cell.kp T.b__law_cell .nil pass0 (pa_cons (pv 0) (pa_cons pe_int pa_nil))) pa_nil)) pe_int))
  (pss_cons (ps_if (pt_cmpR op_lt (pv 5) pe_int (nomark _))
    (pss_cons (ps_expr (pe_bmK (K := K) PySem.F.plainAttrs_list PySem.F.slot_list_insert PySem.F.type_list_insert mt_insert (pv 3) (pa_cons (pe_op op_mod (pe_callTy call_int1 (by rfl) T.z_int (by decide +kernel) (pa_cons (pe_call G__law_cell (hr.mono (by decide)) (by rfl) T.m__law_cell T.f__law_cell.kp T.b__law_cell .nil pass0 (pa_cons (pv 0) (pa_cons pe_int pa_nil))) pa_nil)) (pe_op op_add (pe_callB (call_lenK (K := K)) (by rfl) T.z_len PySem.boot_len (pa_cons (pv 3) pa_nil)) pe_int)) (pa_cons (pe_tup (pa_cons (pv 2) (pa_cons (pe_slice sl_str (pv 4) (po_some (pv 5)) (po_some (pe_op op_add (pv 5) pe_int))) pa_nil))) pa_nil))))
  pss_nil)
    pss_nil)
  (pss_cons (ps_set (i := 6) sc_law.nd rfl (Or.inl rfl) (pe_makeK T.k_mk_Grammar G_Grammar___init__ (hr.mono (by decide)) (by rfl) T.m_Grammar hbK_Grammar pass0 (pa_cons (pe_callTy (call_listK (K := K)) (by rfl) T.z_list (by decide +kernel) (pa_cons (pv 3) pa_nil)) pa_nil) (pk_cons (pv 2) pk_nil)))
  (pss_cons (ps_set (i := 7) sc_law.nd rfl (Or.inl rfl) (pe_call G__law_useful (hr.mono (by decide)) (by rfl) T.m__law_useful T.f__law_useful.kp T.b__law_useful .nil pass0 (pa_cons (pv 3) (pa_cons (pv 2) pa_nil))))
  (pss_cons (ps_set (i := 8) sc_law.nd rfl (Or.inr rfl) (pe_joinK (K := K) pe_str (pe_lc (own := [("_law_k", 12)]) (g := gName 12) (tt := tYes) (by rfl) sc_law.nd (pi_listK (K := K) (pv 7)) (blkOk_by (own := [("_law_k", 12)]) (N := n_law) (sc := (defScope s_law)) (by decide +kernel)) (fun _ _ _ _ _ => (pg_name (i := 12) sc_law.nd rfl (Or.inl rfl))) (fun _ _ _ _ _ => pts_nil) (fun _ _ _ _ _ => (pe_ix (ix_tupK (K := K)) (pe_ix (ix_listK (K := K)) (pv 3) (pv 12) (fun _ _ => rfl)) pe_int (fun _ _ => rfl))))))
  (pss_cons (ps_setLc (i := 9) (own := [("_law_sign", 13)]) (g := gName 13) (by rfl) sc_law.nd rfl rfl (sw_true rfl rfl rfl (by decide +kernel)) (pi_str pe_str) (blkOk_by (own := [("_law_sign", 13)]) (N := n_law) (sc := (defScope s_law)) (by decide +kernel)) (fun _ _ _ _ _ => (pg_name (i := 13) sc_law.nd rfl (Or.inl rfl))) (fun _ _ _ _ _ => (pts_one (pt_cmpR op_in_sign (pv 13) (pv 8) (by rfl)))) (fun _ _ _ _ _ => (pv 13)))
  (pss_cons (ps_set (i := 10) sc_law.nd rfl (Or.inl rfl) (pe_prop (pv 6) T.k_Grammar T.p_Grammar_useful G_Grammar_useful (hr.mono (by decide)) T.b_Grammar_useful .nil pass0 (by rfl)))
  (pss_cons (ps_if (PW.pt (pw_or (pt_not (pt_val (pe_callB (isiK (K := K)) (by rfl) T.z_isinstance (by decide +kernel) (pa_cons (pv 10) (pa_cons (pe_bltn (v := .ty "list") (u := .type "list") (by rfl) T.z_list (by decide +kernel) rfl) pa_nil))))) (pw_or (pt_not (pt_val (pe_callB (cr_allK (K := K) (by rfl)) (by rfl) T.z_all (by decide +kernel) (pa_cons (pe_lc (own := [("_law_k", 12)]) (g := gName 12) (tt := tYes) (by rfl) sc_law.nd (pi_listK (K := K) (pv 10)) (blkOk_by (own := [("_law_k", 12)]) (N := n_law) (sc := (defScope s_law)) (by decide +kernel)) (fun _ _ _ _ _ => (pg_name (i := 12) sc_law.nd rfl (Or.inl rfl))) (fun _ _ _ _ _ => pts_nil) (fun _ _ _ _ _ => (pe_call G__law_is_number (hr.mono (by decide)) (by rfl) T.m__law_is_number T.f__law_is_number.kp T.b__law_is_number .nil pass0 (pa_cons (pv 12) pa_nil)))) pa_nil)))) (pw_or1 (pt_cmpR (op_neDK (K := K) hr.units) (pv 10) (pv 7) (nomark _))))))
    (pss_cons (ps_ret pe_bl)
  pss_nil)
    pss_nil)
  (pss_cons (ps_expr (pe_bmK (K := K) PySem.F.plainAttrs_list PySem.F.slot_list_append PySem.F.type_list_append mt_append (pv 10) (pa_cons pe_int pa_nil)))
  (pss_cons (ps_set (i := 11) sc_law.nd rfl (Or.inl rfl) (pe_prop (pv 6) T.k_Grammar T.p_Grammar_alphabet G_Grammar_alphabet (hr.mono (by decide)) T.b_Grammar_alphabet .nil pass0 (by rfl)))
  (pss_cons (ps_if (PW.pt (pw_or (pt_not (pt_val (pe_callB (isiK (K := K)) (by rfl) T.z_isinstance (by decide +kernel) (pa_cons (pv 11) (pa_cons (pe_bltn (v := .ty "str") (u := .type "str") (by rfl) T.z_str (by decide +kernel) rfl) pa_nil))))) (pw_or1 (pt_cmpR op_ne (pv 11) (pe_joinK (K := K) pe_str (pv 9)) (nomark _)))))
    (pss_cons (ps_ret pe_bl)
  pss_nil)
    pss_nil)
  (pss_cons (ps_ret (pe_and (pe_cmpR (op_eqDK (K := K) hr.units) (pe_prop (pv 6) T.k_Grammar T.p_Grammar_useful G_Grammar_useful (hr.mono (by decide)) T.b_Grammar_useful .nil pass0 (by rfl)) (pv 7) (nomark _)) (pe_and (pe_cmpR op_eq (pe_prop (pv 6) T.k_Grammar T.p_Grammar_alphabet G_Grammar_alphabet (hr.mono (by decide)) T.b_Grammar_alphabet .nil pass0 (by rfl)) (pv 11) (nomark _)) (pe_one (pe_cmpR (op_eqDK (K := K) hr.units) (pe_prop (pv 6) T.k_Grammar T.p_Grammar_rules G_Grammar_rules (hr.mono (by decide)) T.b_Grammar_rules .nil pass0 (by rfl)) (pv 3) (nomark _))))))
  pss_nil)))))))))))))))), ?_⟩
  have e := Xt.refl sF
  let c : Cxt Bool := ⟨⟨False, E, (fun _ => 0)⟩, Q, (fz rB), F, H⟩
  have h : Po c (m_law script_1) := h
  unfold m_law at h
  refine sq_set (c := c) (e_call (f := (fun x => w_draws x.1 x.2.1)) (fun h => h) (a_cons (e_call (f := (fun x => w_cell x.1 x.2.1)) (fun h => h) (a_cons (e_bor (R := (scr K)) (i := 0) (fun _ => Fl.fl (Up.up e h3)) rfl) (a_cons (e_c (r := rNat) (x := 0) fun _ => rfl) a_nil))) (a_cons (e_c (r := rNat) (x := 42) fun _ => rfl) a_nil))) e h (fun v => [some v2, some v, none, none, none, none, none, none, none, none, none, none, none, none]) (fun _ => rfl) fun draws_here_9 v10 F4 H5 e6 e7 h11 h => ?_
  refine sq_set (c := c) (e_ixU (e_lb (e_call (f := (fun x => w_names x.1)) (fun h => h) (a_cons (e_var (r := (qL rNat)) (i := 1) h11 rfl) a_nil))) (e_c (r := rNat) (x := 0) fun _ => rfl)) e7 h (fun v => [some v2, some v10, some v, none, none, none, none, none, none, none, none, none, none, none]) (fun _ => rfl) fun base_17 v18 F12 H13 e14 e15 h19 h => ?_
  replace h11 := Mono.mono (r := (qL rNat)) e14.ff h11
  refine sq_new (c := c) (e_call (f := (fun x => w_wider x.1 x.2.1 x.2.2.1)) (fun h => h) (a_cons (e_call (f := (fun x => w_grammar x.1)) (fun h => h) (a_cons (e_var (r := (qL rNat)) (i := 1) h11 rfl) a_nil)) (a_cons (e_var (r := rC) (i := 2) h19 rfl) (a_cons (e_call (f := (fun x => w_draws x.1 x.2.1)) (fun h => h) (a_cons (e_call (f := (fun x => w_cell x.1 x.2.1)) (fun h => h) (a_cons (e_bor (R := (scr K)) (i := 0) (fun _ => Fl.fl (Up.up e15 h3)) rfl) (a_cons (e_c (r := rNat) (x := 1) fun _ => rfl) a_nil))) (a_cons (e_c (r := rNat) (x := 10) fun _ => rfl) a_nil))) a_nil)))) e15 h (fun v => [some v2, some v10, some v18, some v, none, none, none, none, none, none, none, none, none, none]) (fun _ => rfl) fun rules_27 p28 vs29 F20 H21 e22 e23 hp30 w31 al32 hz33 h => ?_
  replace h19 := Mono.mono (r := rC) e22.ff h19
  refine sq_set (c := c) (e_str (x := [97, 98, 99, 100, 101, 102, 103, 104, 105, 106, 107, 108, 109, 110, 111, 112, 113, 114, 115, 116, 117, 118, 119, 120, 121, 122, 48, 49, 50, 51, 52, 53, 54, 55, 56, 57, 40, 41, 91, 93, 123, 125, 43, 45, 42, 47, 44, 46, 59, 58, 33, 63]) (by decide +kernel) (by decide +kernel)) e23 h (fun v => [some v2, some v10, some v18, some (.ref p28), some v, none, none, none, none, none, none, none, none, none]) (fun _ => rfl) fun every_38 v39 F34 H35 e36 e37 h40 h => ?_
  replace h19 := Mono.mono (r := rC) e36.ff h19
  replace w31 := w31.up e36
  replace al32 := al32.mono e36.ff
  refine sq_set (c := c) (e_modI (e_int (e_call (f := (fun x => w_cell x.1 x.2.1)) (fun h => h) (a_cons (e_bor (R := (scr K)) (i := 0) (fun _ => Fl.fl (Up.up e37 h3)) rfl) (a_cons (e_c (r := rNat) (x := 2) fun _ => rfl) a_nil)))) (e_c (r := rNat) (x := 98) fun _ => rfl)) e37 h (fun v => [some v2, some v10, some v18, some (.ref p28), some v39, some v, none, none, none, none, none, none, none, none]) (fun _ => rfl) fun at_47 v48 F41 H42 e43 e44 h49 h => ?_
  replace h19 := Mono.mono (r := rC) e43.ff h19
  replace w31 := w31.up e43
  replace al32 := al32.mono e43.ff
  replace h40 := Mono.mono (r := qS) e43.ff h40
  refine sq_ifj (c := c) (t_test (e_ltU (e_var (r := rNat) (i := 5) h49 rfl) (e_c (r := rNat) (x := 49) fun _ => rfl))) e44 h (fun (s53 : (List (Nat × (List Nat)))) F59 σ' H60 => ∃ (us55 : List (V)), σ' = [some v2, some v10, some v18, some (.ref p28), some v39, some v48, none, none, none, none, none, none, none, none] ∧ Xt F H F59 H60 ∧ rC F59 v18 base_17 ∧ Own H F59 H60 p28 (.lst us55) ∧ Al (rP rC qS) F59 us55 s53 ∧ s53.length ≤ sizeLine) (fun j63 nx64 F50 H51 hn65 e52 h => ?_) (fun j63 nx64 F50 H51 hn65 e52 h => ?_) (fun s53 F59 σ' H60 hN h => ?_)
  ·
    replace h19 := Mono.mono (r := rC) e52.ff h19
    replace w31 := w31.up e52
    replace al32 := al32.mono e52.ff
    replace h40 := Mono.mono (r := qS) e52.ff h40
    replace h49 := Mono.mono (r := rNat) e52.ff h49
    have e66 := e44.trans e52
    refine sq_insert (c := c) w31 al32  rfl (e_modI (e_int (e_call (f := (fun x => w_cell x.1 x.2.1)) (fun h => h) (a_cons (e_bor (R := (scr K)) (i := 0) (fun _ => Fl.fl (Up.up e66 h3)) rfl) (a_cons (e_c (r := rNat) (x := 3) fun _ => rfl) a_nil)))) (e_addU (e_lenL (e_own (i := 3) w31 al32 hz33 rfl)) (e_c (r := rNat) (x := 1) fun _ => rfl))) (e_tup2 (a_cons (e_var (r := rC) (i := 2) h19 rfl) (a_cons (e_slS (e_var (r := qS) (i := 4) h40 rfl) (o_some (e_ui (e_var (r := rNat) (i := 5) h49 rfl))) (o_some (e_ui (e_addU (e_var (r := rNat) (i := 5) h49 rfl) (e_c (r := rNat) (x := 4) fun _ => rfl))))) a_nil))) e66 h fun rules_69 us70 F71 H72 e73 ch74 w75 al76 hz77 h => ?_
    replace h19 := Mono.mono (r := rC) ch74.ff h19
    exact hn65 rules_69 _ _ _ ⟨_, rfl, e73, h19, w75, al76, hz77⟩ h
  ·
    replace h19 := Mono.mono (r := rC) e52.ff h19
    replace w31 := w31.up e52
    replace al32 := al32.mono e52.ff
    have e80 := e44.trans e52
    exact hn65 rules_27 _ _ _ ⟨_, rfl, e80, h19, w31, al32, hz33⟩ h
  obtain ⟨us55, rfl, e61, h54, w56, al57, hz58⟩ := hN
  refine sq_set (c := c) (e_mkGrK (e_nlb (e_list (e_own (i := 3) w56 al57 hz58 rfl))) (e_var (r := rC) (i := 2) h54 rfl)) e61 h (fun v => [some v2, some v10, some v18, some (.ref p28), some v39, some v48, some v, none, none, none, none, none, none, none]) (fun _ => rfl) fun grammar_here_85 v86 F81 H82 e83 e84 h87 h => ?_
  replace h54 := Mono.mono (r := rC) e83.ff h54
  replace w56 := w56.up e83
  replace al57 := al57.mono e83.ff
  refine sq_set (c := c) (e_call (f := (fun x => w_lawuseful x.1 x.2.1)) (fun h => h) (a_cons (e_own (i := 3) w56 al57 hz58 rfl) (a_cons (e_var (r := rC) (i := 2) h54 rfl) a_nil))) e84 h (fun v => [some v2, some v10, some v18, some (.ref p28), some v39, some v48, some v86, some v, none, none, none, none, none, none]) (fun _ => rfl) fun due_92 v93 F88 H89 e90 e91 h94 h => ?_
  replace w56 := w56.up e90
  replace al57 := al57.mono e90.ff
  replace h87 := Mono.mono (r := (rGr a.Grammar a.Table)) e90.ff h87
  refine sq_set (c := c) (e_join (e_str (x := []) (by decide +kernel) (by decide +kernel)) (e_nlb (e_lc (w' := c.w) (i_list (e_lb (e_var (r := (qL rNat)) (i := 7) h94 rfl))) (fun F103 x99 σ2 => ∃ v101, σ2 = [some v2, some v10, some v18, some (.ref p28), some v39, some v48, some v86, some v93, none, none, none, none, some v101, none] ∧ rNat F103 v101 x99) (fun Q e h k => k _ rfl ⟨_, rfl, h⟩) (fun x99 σ2 F103 H104 e100 tg => by obtain ⟨v101, rfl, h102⟩ := tg; exact t_yes) (fun x99 σ2 F103 H104 e100 tg => by obtain ⟨v101, rfl, h102⟩ := tg; exact (e_2_1 (e_ixU (((e_own (i := 3) w56 al57 hz58 rfl)).up e100) (e_var (r := rNat) (i := 12) h102 rfl))))))) e91 h (fun v => [some v2, some v10, some v18, some (.ref p28), some v39, some v48, some v86, some v93, some v, none, none, none, none, none]) (fun _ => rfl) fun bodies_107 v108 F95 H96 e97 e98 h109 h => ?_
  replace w56 := w56.up e97
  replace al57 := al57.mono e97.ff
  replace h87 := Mono.mono (r := (rGr a.Grammar a.Table)) e97.ff h87
  replace h94 := Mono.mono (r := (qL rNat)) e97.ff h94
  refine sq_set (c := c) (e_frz (e_lcPure (e_lc (w' := c.w) (i_w (i_str (e_str (x := [33, 40, 41, 42, 43, 44, 45, 46, 47, 48, 49, 50, 51, 52, 53, 54, 55, 56, 57, 58, 59, 63, 91, 93, 97, 98, 99, 100, 101, 102, 103, 104, 105, 106, 107, 108, 109, 110, 111, 112, 113, 114, 115, 116, 117, 118, 119, 120, 121, 122, 123, 125]) (by decide +kernel) (by decide +kernel)))) (fun F118 x114 σ2 => ∃ v116, σ2 = [some v2, some v10, some v18, some (.ref p28), some v39, some v48, some v86, some v93, some v108, none, none, none, none, some v116] ∧ rC F118 v116 x114) (fun Q e h k => k _ rfl ⟨_, rfl, h⟩) (fun x114 σ2 F118 H119 e115 tg => by obtain ⟨v116, rfl, h117⟩ := tg; exact (t_test (e_inS (e_var (r := rC) (i := 13) h117 rfl) (((e_var (r := qS) (i := 8) h109 rfl)).up e115)))) (fun x114 σ2 F118 H119 e115 tg => by obtain ⟨v116, rfl, h117⟩ := tg; exact (e_cs (e_var (r := rC) (i := 13) h117 rfl)))))) e98 h (fun v => [some v2, some v10, some v18, some (.ref p28), some v39, some v48, some v86, some v93, some v108, some v, none, none, none, none]) (fun _ => rfl) fun signs_here_120 v121 F110 H111 e112 e113 h122 h => ?_
  replace w56 := w56.up e112
  replace al57 := al57.mono e112.ff
  replace h87 := Mono.mono (r := (rGr a.Grammar a.Table)) e112.ff h87
  replace h94 := Mono.mono (r := (qL rNat)) e112.ff h94
  refine sq_new (c := c) (e_prop (f := fun x => w_useful x.1) (fun h => h) (hk := gr_at) (e_var (r := (rGr a.Grammar a.Table)) (i := 6) h87 rfl)) e113 h (fun v => [some v2, some v10, some v18, some (.ref p28), some v39, some v48, some v86, some v93, some v108, some v121, some v, none, none, none]) (fun _ => rfl) fun told_127 p128 vs129 F123 H124 e125 e126 hp130 w131 al132 hz133 h => ?_
  have ne134 := w56.ne hp130
  replace w56 := w56.up e125
  replace al57 := al57.mono e125.ff
  replace h87 := Mono.mono (r := (rGr a.Grammar a.Table)) e125.ff h87
  replace h94 := Mono.mono (r := (qL rNat)) e125.ff h94
  replace h122 := Mono.mono (r := (qL qS)) e125.ff h122
  refine sq_if (c := c) (t_or (t_not (t_val (e_isi (b := true) (by decide +kernel) (e_own (i := 10) w131 al132 hz133 rfl)))) (t_or (t_not (t_val (e_all (e_nlb (e_lc (w' := c.w) (i_list (e_own (i := 10) w131 al132 hz133 rfl)) (fun F139 x135 σ2 => ∃ v137, σ2 = [some v2, some v10, some v18, some (.ref p28), some v39, some v48, some v86, some v93, some v108, some v121, some (.ref p128), none, some v137, none] ∧ rNat F139 v137 x135) (fun Q e h k => k _ rfl ⟨_, rfl, h⟩) (fun x135 σ2 F139 H140 e136 tg => by obtain ⟨v137, rfl, h138⟩ := tg; exact t_yes) (fun x135 σ2 F139 H140 e136 tg => by obtain ⟨v137, rfl, h138⟩ := tg; exact e_at (e_call (f := (fun x => w_isnum x.1)) (fun h => h) (a_cons (e_var (r := rNat) (i := 12) h138 rfl) a_nil)) rfl)))))) (t_test (e_neL (r := rNat) (by decide) (e_own (i := 10) w131 al132 hz133 rfl) (e_lb (e_var (r := (qL rNat)) (i := 7) h94 rfl)))))) e126 h (fun F143 H144 e145 h => ?_) (fun F143 H144 e145 h => ?_)
  ·
    have e146 := e126.trans e145
    exact sq_ret (c := c) (e_c (r := rB) (x := false) fun _ => rfl) e146 h fun _ _ q => q
  ·
    replace w56 := w56.up e145
    replace al57 := al57.mono e145.ff
    replace h87 := Mono.mono (r := (rGr a.Grammar a.Table)) e145.ff h87
    replace h94 := Mono.mono (r := (qL rNat)) e145.ff h94
    replace h122 := Mono.mono (r := (qL qS)) e145.ff h122
    replace w131 := w131.up e145
    replace al132 := al132.mono e145.ff
    have e147 := e126.trans e145
    refine sq_append (c := c) w131 al132  rfl (e_c (r := rNat) (x := 99) fun _ => rfl) e147 h fun told_148 us149 F150 H151 e152 ch153 w154 al155 hz156 h => ?_
    replace w56 := w56.oth ch153 ne134
    replace al57 := al57.mono ch153.ff
    replace h87 := Mono.mono (r := (rGr a.Grammar a.Table)) ch153.ff h87
    replace h94 := Mono.mono (r := (qL rNat)) ch153.ff h94
    replace h122 := Mono.mono (r := (qL qS)) ch153.ff h122
    refine sq_set (c := c) (e_prop (f := fun x => m_Grammar_alphabet x.1) (fun h => h) (hk := gr_at) (e_var (r := (rGr a.Grammar a.Table)) (i := 6) h87 rfl)) e152 h (fun v => [some v2, some v10, some v18, some (.ref p28), some v39, some v48, some v86, some v93, some v108, some v121, some (.ref p128), some v, none, none]) (fun _ => rfl) fun alphabet_162 v163 F158 H159 e160 e161 h164 h => ?_
    replace w56 := w56.up e160
    replace al57 := al57.mono e160.ff
    replace h87 := Mono.mono (r := (rGr a.Grammar a.Table)) e160.ff h87
    replace h94 := Mono.mono (r := (qL rNat)) e160.ff h94
    replace h122 := Mono.mono (r := (qL qS)) e160.ff h122
    refine sq_if (c := c) (t_or (t_not (t_val (e_isi (b := true) (by decide +kernel) (e_var (r := qS) (i := 11) h164 rfl)))) (t_test (e_ne (e_var (r := qS) (i := 11) h164 rfl) (e_join (e_str (x := []) (by decide +kernel) (by decide +kernel)) (e_lb (e_var (r := (qL qS)) (i := 9) h122 rfl)))))) e161 h (fun F166 H167 e168 h => ?_) (fun F166 H167 e168 h => ?_)
    ·
      have e169 := e161.trans e168
      exact sq_ret (c := c) (e_c (r := rB) (x := false) fun _ => rfl) e169 h fun _ _ q => q
    ·
      replace w56 := w56.up e168
      replace al57 := al57.mono e168.ff
      replace h87 := Mono.mono (r := (rGr a.Grammar a.Table)) e168.ff h87
      replace h94 := Mono.mono (r := (qL rNat)) e168.ff h94
      replace h164 := Mono.mono (r := qS) e168.ff h164
      have e170 := e161.trans e168
      exact sq_ret (c := c) (e_and (e_eqL (r := rNat) (by decide) (e_nlb (e_prop (f := fun x => w_useful x.1) (fun h => h) (hk := gr_at) (e_var (r := (rGr a.Grammar a.Table)) (i := 6) h87 rfl))) (e_lb (e_var (r := (qL rNat)) (i := 7) h94 rfl))) (e_and (e_eq (e_prop (f := fun x => m_Grammar_alphabet x.1) (fun h => h) (hk := gr_at) (e_var (r := (rGr a.Grammar a.Table)) (i := 6) h87 rfl)) (e_var (r := qS) (i := 11) h164 rfl)) (e_eqL (r := (rP rC qS)) (by decide) (e_nlb (e_prop (f := fun x => w_rules x.1) (fun h => h) (hk := gr_at) (e_var (r := (rGr a.Grammar a.Table)) (i := 6) h87 rfl))) (e_own (i := 3) w56 al57 hz58 rfl)))) e170 h fun _ _ q => q
end SF
/-! a grammar that is let has small tables -/
namespace SF
open PySem PySem.Spec PyProof.Rows L2
theorem bnStep_len1 {pairs : List Pair} {m : List (List Nat × List Nat)} {n : Nat} : (bnStep pairs m n).length ≤ m.length + 1 := by
  unfold bnStep
  rw [aPut_length]
  split <;> omega
theorem aPut_all {κ α : Type} [DecidableEq κ] {m : List (κ × α)} {k : κ} {x : α} {p : α → Prop} (h : ∀ q ∈ m, p q.2) (hx : p x) : ∀ q ∈ aPut m k x, p q.2 := by
  unfold aPut
  split
  · intro q hq
    obtain ⟨y, hy, rfl⟩ := List.mem_map.mp hq
    split
    · exact hx
    · exact h y hy
  · intro q hq
    rcases List.mem_append.mp hq with z | z
    · exact h q z
    · rw [List.mem_singleton.mp z]; exact hx
theorem bn_small {pairs : List Pair} : ∀ (ns : List Nat) (m : List (List Nat × List Nat)) (k : Nat), m.length ≤ k → (∀ q ∈ m, q.2.length ≤ k) → (ns.foldl (bnStep pairs) m).length ≤ k + ns.length ∧ ∀ q ∈ ns.foldl (bnStep pairs) m, q.2.length ≤ k + ns.length
  | [], m, k, h1, h2 => ⟨h1, h2⟩
  | n :: ns, m, k, h1, h2 => by
    have := bn_small (pairs := pairs) ns (bnStep pairs m n) (k + 1) (Nat.le_trans bnStep_len1 (by omega)) (by
      unfold bnStep
      refine aPut_all (p := fun l => l.length ≤ k + 1) (fun q hq => Nat.le_succ_of_le (h2 q hq)) ?_
      rw [List.length_append]
      have : ((aGet m (headAt pairs n)).getD []).length ≤ k := by
        cases e : aGet m (headAt pairs n) with
        | none => exact Nat.zero_le _
        | some y => exact h2 _ (aGet_mem e)
      simp
      omega)
    rw [List.foldl_cons, List.length_cons]
    exact ⟨by omega, fun q hq => by have := this.2 q hq; omega⟩
theorem Gram.Ok.pre {g : Gram} (h : g.Ok) : PreOk g := ⟨h.few, h.rok, h.here, h.ends, h.short⟩
theorem tab_small {pairs : List Pair} {numbers : List Nat} {van : List (Nat × Bool)} (h1 : pairs.length ≤ 1000) (h2 : ∀ q ∈ pairs, q.1.length ≤ 1000 ∧ q.2.length ≤ 1000) (h3 : numbers.length ≤ 1000) (h4 : van.length ≤ 1000) : TBnd (mkTab pairs numbers van) := by
  have h := bn_small (pairs := pairs) numbers [] 0 (Nat.le_refl _) (fun q hq => by cases hq)
  rw [Nat.zero_add] at h
  exact ⟨h1, h2, h3, h4, Nat.le_trans h.1 h3, fun q hq => Nat.le_trans (h.2 q hq) h3⟩
theorem Gram.Ok.bnd {g : Gram} (h : g.Ok) : GBnd g := by
  obtain ⟨n1, n16⟩ := h.few
  have hu : g.useful.length ≤ g.rules.length := useful_len
  have hb := h.pre.bestOk.1.few
  have hb : g.best.length ≤ 26 := hb
  have hv : g.van.length ≤ 1000 := by
    unfold Gram.van
    rw [List.length_map]
    refine Nat.le_trans (List.length_filter_le _ _) ?_
    rw [List.length_map]; omega
  have hp : g.pairs.length ≤ 1000 := by unfold Gram.pairs; rw [List.length_append, List.length_map]; simp; omega
  have hp2 : ∀ q ∈ g.pairs, q.1.length ≤ 1000 ∧ q.2.length ≤ 1000 := fun q hq => by
    unfold Gram.pairs at hq
    rcases List.mem_append.mp hq with z | z
    · obtain ⟨r, hr, rfl⟩ := List.mem_map.mp z
      have := (h.rok r hr).2.1
      exact ⟨by simp, by show r.2.length ≤ 1000; omega⟩
    · rw [List.mem_singleton.mp z]; simp
  have hn : g.numbers.length ≤ 1000 := by unfold Gram.numbers; rw [List.length_append]; simp; omega
  refine ⟨tab_small hp hp2 hn hv, tab_small (by rw [List.length_map]; exact hp) (fun q hq => ?_) hn hv, ⟨by omega, fun r hr => by have := (h.rok r hr).2.1; omega⟩, by omega⟩
  obtain ⟨p, hp, rfl⟩ := List.mem_map.mp hq
  exact ⟨(hp2 p hp).1, by show p.2.reverse.length ≤ 1000; rw [List.length_reverse]; exact (hp2 p hp).2⟩
theorem w_Grammar_ok {rules : List Rule} {root : Nat} (h : (Gram.mk rules root).Ok) : w_Grammar rules root = .ok ⟨rules, root⟩ := by
  unfold w_Grammar
  exact @M.gd_pos _ _ (Classical.propDecidable _) _ ⟨h, h.bnd⟩
theorem w_draws_ok {c : Int} {n : Nat} (h : n ≤ 1000) : w_draws c n = .ok (draws c n) := by unfold w_draws; exact M.gd_pos h
theorem w_cell_ok (s : List Int) (k : Nat) : w_cell s k = .ok (s[k]?.getD 0) := by unfold w_cell; rfl
theorem w_names_ok (c : Int) : w_names (draws c 42) = .ok (lawNames (draws c 42)) := by unfold w_names; exact M.gd_pos ⟨by rw [draws_len]; omega, draws_lt _ _⟩
theorem w_signs_ok (c : Int) : w_signs (draws c 42) = .ok (lawSigns (draws c 42)) := by unfold w_signs; exact M.gd_pos ⟨by rw [draws_len]; omega, draws_lt _ _⟩
theorem w_grammar_ok (c : Int) : w_grammar (draws c 42) = .ok (lawGrammar (draws c 42)) := by unfold w_grammar; exact M.gd_pos ⟨by rw [draws_len]; omega, draws_lt _ _⟩
theorem w_useful_ok (g : Gram) : w_useful g = .ok g.useful := by unfold w_useful; rfl
theorem w_rules_ok (g : Gram) : w_rules g = .ok g.rules := by unfold w_rules; rfl
theorem w_isnum_ok (n : Nat) : w_isnum n = .ok true := by unfold w_isnum; rfl
theorem lc_all {α β : Type} {f : α → M β} {g : α → β} : ∀ {l : List α}, (∀ x ∈ l, f x = .ok (g x)) → M.lc (fun _ => M.ok true) f l = .ok (l.map g)
  | [], _ => rfl
  | x :: l, h => by
    unfold M.lc
    rw [h x List.mem_cons_self, lc_all fun y hy => h y (List.mem_cons_of_mem _ hy)]
    rfl
theorem join_nil {xs : List (List Nat)} (h : (xs.map List.length).sum ≤ 16777216) : M.join [] xs = .ok xs.flatten := by
  unfold M.join
  rw [M.gd_pos (by simpa using h), joinL_nil]
end SF
/-! what the law of k09 answers -/
namespace SF
open PySem PySem.Spec PyProof.Rows L2
theorem jn_ok {σ β : Type} {rest : σ → M β} {body : (σ → M β) → M β} {y : β} (P : σ → Prop) (h1 : ∀ s, P s → rest s = .ok y) (h2 : ∀ j : σ → M β, (∀ s, P s → j s = .ok y) → body j = .ok y) : M.jn rest body = .ok y := h2 rest h1
theorem isName_one (c : Nat) : isName [c] = nam c := rfl
theorem sc1_spec {b : List Nat} : ∀ {l d : List Nat}, (∀ c ∈ l, (sgn c || nam c) = true) → d.Nodup → (∀ c ∈ d, sgn c = true) → ∃ z, M.sc1 (fun y => M.ok (!(isName [y]))) (fun y => M.ok y) l d = .ok z ∧ z.Nodup ∧ (∀ c, c ∈ z ↔ c ∈ d ∨ (c ∈ l ∧ sgn c = true))
  | [], d, _, hn, _ => ⟨d, rfl, hn, fun c => by simp⟩
  | y :: l, d, hl, hn, hd => by
    unfold M.sc1
    rw [M.nox_ok, M.bd_ok, isName_one]
    have hl' : ∀ c ∈ l, (sgn c || nam c) = true := fun c hc => hl c (List.mem_cons_of_mem _ hc)
    cases hy : nam y with
    | true =>
      have hs : sgn y = false := by
        cases q : sgn y with
        | false => rfl
        | true => rw [sgn_not_nam q] at hy; cases hy
      rw [if_neg (by decide)]
      obtain ⟨z, h1, h2, h3⟩ := sc1_spec (b := b) hl' hn hd
      refine ⟨z, h1, h2, fun c => (h3 c).trans ?_⟩
      constructor
      · rintro (h | ⟨h, h'⟩)
        · exact .inl h
        · exact .inr ⟨List.mem_cons_of_mem _ h, h'⟩
      · rintro (h | ⟨h, h'⟩)
        · exact .inl h
        · rcases List.mem_cons.mp h with e | e
          · rw [e, hs] at h'; cases h'
          · exact .inr ⟨e, h'⟩
    | false =>
      have hs : sgn y = true := by
        have := hl y List.mem_cons_self
        rw [hy, Bool.or_false] at this
        exact this
      rw [if_pos (by decide), M.nox_ok, M.bd_ok]
      have hlen : d.length ≤ SIGNSl.length := nodup_le hn fun c hc => of_decide_eq_true (hd c hc)
      rw [M.gd_pos (by have : SIGNSl.length = 52 := rfl; omega)]
      have hn2 : (if y ∈ d then d else y :: d).Nodup := by
        split
        · exact hn
        · rename_i q; exact List.nodup_cons.mpr ⟨q, hn⟩
      have hm2 : ∀ c, c ∈ (if y ∈ d then d else y :: d) ↔ c = y ∨ c ∈ d := fun c => by
        split
        · rename_i q
          constructor
          · exact .inr
          · rintro (e | e)
            · rw [e]; exact q
            · exact e
        · exact List.mem_cons
      obtain ⟨z, h1, h2, h3⟩ := sc1_spec (b := b) hl' hn2 (fun c hc => by
        rcases (hm2 c).mp hc with e | e
        · rw [e]; exact hs
        · exact hd c e)
      refine ⟨z, h1, h2, fun c => (h3 c).trans ?_⟩
      rw [hm2]
      constructor
      · rintro ((h | h) | ⟨h, h'⟩)
        · exact .inr ⟨by rw [h]; exact List.mem_cons_self, by rw [h]; exact hs⟩
        · exact .inl h
        · exact .inr ⟨List.mem_cons_of_mem _ h, h'⟩
      · rintro (h | ⟨h, h'⟩)
        · exact .inl (.inr h)
        · rcases List.mem_cons.mp h with e | e
          · exact .inl (.inl e)
          · exact .inr ⟨e, h'⟩
theorem sc2_spec : ∀ {xs : List (List Nat)} {d : List Nat}, (∀ b ∈ xs, ∀ c ∈ b, (sgn c || nam c) = true) → d.Nodup → (∀ c ∈ d, sgn c = true) → ∃ z, M.sc2 (fun x => M.ok x) (fun x y => M.ok (!(isName [y]))) (fun x y => M.ok y) xs d = .ok z ∧ z.Nodup ∧ (∀ c, c ∈ z ↔ c ∈ d ∨ (c ∈ xs.flatten ∧ sgn c = true))
  | [], d, _, hn, _ => ⟨d, rfl, hn, fun c => by simp⟩
  | b :: xs, d, hx, hn, hd => by
    unfold M.sc2
    rw [M.nox_ok, M.bd_ok]
    obtain ⟨z1, h1, h2, h3⟩ := sc1_spec (b := b) (hx b List.mem_cons_self) hn hd
    rw [h1, M.bd_ok]
    obtain ⟨z, g1, g2, g3⟩ := sc2_spec (xs := xs) (d := z1) (fun b hb => hx b (List.mem_cons_of_mem _ hb)) h2 (fun c hc => by
      rcases (h3 c).mp hc with e | e
      · exact hd c e
      · exact e.2)
    refine ⟨z, g1, g2, fun c => (g3 c).trans ?_⟩
    rw [h3, List.flatten_cons, List.mem_append]
    constructor
    · rintro ((h | ⟨h, h'⟩) | ⟨h, h'⟩)
      · exact .inl h
      · exact .inr ⟨.inl h, h'⟩
      · exact .inr ⟨.inr h, h'⟩
    · rintro (h | ⟨h | h, h'⟩)
      · exact .inl (.inl h)
      · exact .inl (.inr ⟨h, h'⟩)
      · exact .inr ⟨h, h'⟩
def SA : List Nat := [33, 40, 41, 42, 43, 44, 45, 46, 47, 48, 49, 50, 51, 52, 53, 54, 55, 56, 57, 58, 59, 63, 91, 93, 97, 98, 99, 100, 101, 102, 103, 104, 105, 106, 107, 108, 109, 110, 111, 112, 113, 114, 115, 116, 117, 118, 119, 120, 121, 122, 123, 125]
theorem SA_asc : SA.Pairwise (· < ·) := by unfold SA; decide
theorem SA_mem {c : Nat} : c ∈ SA ↔ sgn c = true := by
  unfold sgn SA SIGNSl
  rw [decide_eq_true_eq]
  simp only [List.mem_cons, List.not_mem_nil, or_false]
  omega
def gBodies (g : Gram) : List (List Nat) := g.useful.map fun n => (g.rules[n]?.map (·.2)).getD []
def alphaOf (g : Gram) : List Nat := SA.filter fun x => decide (x ∈ (gBodies g).flatten)
theorem bodies_lc {rules : List Rule} {ns : List Nat} (h : ∀ n ∈ ns, ∃ r, rules[n]? = some r) : M.lc (fun _ => M.ok true) (fun n => ((M.of rules[n]?).bd fun t => M.ok t.2)) ns = .ok (ns.map fun n => (rules[n]?.map (·.2)).getD []) :=
  lc_all fun n hn => by
    obtain ⟨r, hr⟩ := h n hn
    rw [hr]; rfl
theorem useful_at {g : Gram} {n : Nat} (h : n ∈ g.useful) : ∃ r, g.rules[n]? = some r := by
  obtain ⟨r, h1, _⟩ := useful_mem.mp h
  exact ⟨r, h1⟩
theorem body_code {g : Gram} (h : g.Ok) : ∀ b ∈ gBodies g, b.length ≤ 4 ∧ ∀ c ∈ b, (sgn c || nam c) = true := fun b hb => by
  obtain ⟨n, hn, rfl⟩ := List.mem_map.mp hb
  obtain ⟨r, hr⟩ := useful_at hn
  rw [hr]
  have := h.rok r (List.mem_of_getElem? hr)
  exact ⟨this.2.1, this.2.2⟩
theorem sum_le {k : Nat} : ∀ {xs : List (List Nat)}, (∀ b ∈ xs, b.length ≤ k) → (xs.map List.length).sum ≤ xs.length * k
  | [], _ => Nat.zero_le _
  | b :: xs, h => by
    have h1 := h b List.mem_cons_self
    have h2 := sum_le (xs := xs) fun c hc => h c (List.mem_cons_of_mem _ hc)
    rw [List.map_cons, List.sum_cons, List.length_cons, Nat.succ_mul]
    omega
theorem ones_flat : ∀ l : List Nat, (l.map fun c => [c]).flatten = l
  | [] => rfl
  | c :: l => by rw [List.map_cons, List.flatten_cons, ones_flat l]; rfl
theorem ones_sum (l : List Nat) : ((l.map fun c => [c]).map List.length).sum = l.length := by
  induction l with
  | nil => rfl
  | cons c l ih => rw [List.map_cons, List.map_cons, List.sum_cons, ih, List.length_cons]; simp; omega
theorem alpha_len (g : Gram) : (alphaOf g).length ≤ 52 := Nat.le_trans (List.length_filter_le _ _) (by decide)
theorem alphabet_ok {g : Gram} (h : g.Ok) : m_Grammar_alphabet g = .ok (alphaOf g) := by
  unfold m_Grammar_alphabet
  rw [bodies_lc fun n hn => useful_at hn, M.bd_ok]
  obtain ⟨z, h1, h2, h3⟩ := sc2_spec (xs := gBodies g) (d := []) (fun b hb => (body_code h b hb).2) List.nodup_nil (fun c hc => by cases hc)
  show ((M.bd (M.sc2 _ _ _ (gBodies g) []) _).bd _) = _
  rw [h1, M.bd_ok, M.bd_ok]
  have e : sortN z = alphaOf g := by
    unfold alphaOf
    refine asc_eq (sortN_asc h2) (List.Pairwise.filter _ SA_asc) fun c => ?_
    rw [sortN_mem, h3, List.mem_filter, SA_mem]
    simp
    exact and_comm
  rw [e, join_nil (by rw [ones_sum]; have := alpha_len g; omega), ones_flat]
end SF
namespace SF
open PySem PySem.Spec PyProof.Rows L2
theorem okd_nats (l : List Nat) : Deep.okd (qL rNat) l = true := List.all_eq_true.mpr fun _ _ => rfl
theorem okd_rules {rs : List Rule} (h : RulesOk rs) : Deep.okd (qL (rP rC qS)) rs = true := List.all_eq_true.mpr fun r hr => by
  obtain ⟨h1, h2, h3⟩ := h r hr
  show (decide (r.1 < 1114112) && r.2.all fun c => decide (c < 1114112)) = true
  rw [Bool.and_eq_true]
  have n1 := nam_iff.mp h1
  refine ⟨decide_eq_true (by omega), List.all_eq_true.mpr fun c hc => ?_⟩
  have := h3 c hc
  rw [Bool.or_eq_true] at this
  rcases this with q | q
  · have := sgn_lt q; exact decide_eq_true (by omega)
  · have := nam_iff.mp q; exact decide_eq_true (by omega)
theorem w_lawuseful_ok {g : Gram} (h : g.Ok) : w_lawuseful g.rules g.root = .ok g.useful := by
  have e : lawUseful g.rules g.root = g.useful := lawUseful_eq h.rok h.pre.nroot h.here
  have hu : g.useful.length ≤ g.rules.length := useful_len
  obtain ⟨n1, n16⟩ := h.few
  unfold w_lawuseful
  rw [M.gd_pos ⟨h.rok, n16, by rw [e]; omega⟩, e]
theorem isnum_all (l : List Nat) : M.lc (fun _ => M.ok true) (fun x => w_isnum x) l = .ok (l.map fun _ => true) := lc_all fun x _ => w_isnum_ok x
theorem all_true (l : List Nat) : (l.map fun _ => true).all id = true := List.all_eq_true.mpr fun x hx => by
  obtain ⟨_, _, rfl⟩ := List.mem_map.mp hx; rfl
theorem bd_eq {α β : Type} {m : M α} {x : α} {f : α → M β} {y : M β} (h : m = .ok x) (k : f x = y) : m.bd f = y := by rw [h]; exact k
theorem cut4 {l : List Nat} {n : Nat} : (cutG l (some ((n : Nat) : Int)) (some (((n + 4) : Nat) : Int))).length ≤ 4 ∧ ∀ c ∈ cutG l (some ((n : Nat) : Int)) (some (((n + 4) : Nat) : Int)), c ∈ l := by
  unfold cutG
  rw [HT.sIx_nat, HT.sIx_nat]
  exact ⟨Nat.le_trans (List.length_take_le _ _) (by omega), fun c hc => List.mem_of_mem_drop (List.mem_of_mem_take hc)⟩
theorem law_true (ns : List Int) : m_law ns = .ok true := by
  unfold m_law
  refine bd_eq (bd_eq (w_cell_ok _ _) (w_draws_ok (by decide))) ?_
  generalize hc : ns[0]?.getD 0 = c0
  obtain ⟨n1, n3⟩ := lawNames_len (draws c0 42)
  refine bd_eq (x := dg (lawNames (draws c0 42)) 0) (bd_eq (w_names_ok c0) ?_) ?_
  · unfold dg
    rw [List.getElem?_eq_getElem n1]; rfl
  obtain ⟨hdr, hlen⟩ := lawGrammar_ok (draws c0 42)
  have hnn := lawNames_nam (draws c0 42)
  have h23 := free_len hdr n3
  have hrok := hdr.rok hnn
  generalize hd2 : draws (ns[1]?.getD 0) 10 = d2
  have hd2l : d2.length = 10 := by rw [← hd2, draws_len]
  obtain ⟨names', hn0, hwd⟩ := lawWider_wd hdr hnn n1 n3 d2
  have hwl := lawWider_len (rules := lawGrammar (draws c0 42)) (base := dg (lawNames (draws c0 42)) 0) (d := d2)
  refine bd_eq (x := lawWider (lawGrammar (draws c0 42)) (dg (lawNames (draws c0 42)) 0) d2) (bd_eq (w_grammar_ok c0) (bd_eq (x := d2) (bd_eq (w_cell_ok _ _) (by rw [hd2.symm]; exact w_draws_ok (by decide))) ?_)) ?_
  · unfold w_wider
    refine M.gd_pos ⟨by omega, hrok, hlen, h23, by omega, fun q hq => ?_⟩
    have := (hwd.rok q hq).2.1
    omega
  rw [← hn0] at *
  generalize lawWider (lawGrammar (draws c0 42)) (dg names' 0) d2 = W at *
  refine bd_eq rfl ?_
  refine bd_eq (x := ((ns[2]?.getD 0) % 98).toNat) (bd_eq (x := ns[2]?.getD 0) (bd_eq (w_cell_ok _ _) rfl) (M.gd_pos (by decide))) ?_
  refine jn_ok (fun R => (Gram.mk R (dg names' 0)).Ok) (fun R hok => ?_) (fun j hj => ?_)
  · have e3 : w_lawuseful R (dg names' 0) = .ok (Gram.mk R (dg names' 0)).useful := w_lawuseful_ok (g := ⟨R, dg names' 0⟩) hok
    generalize hg : Gram.mk R (dg names' 0) = g at *
    have hR : R = g.rules := by rw [← hg]
    have hr : dg names' 0 = g.root := by rw [← hg]
    refine bd_eq (w_Grammar_ok (by rw [hg]; exact hok)) ?_
    rw [hg]
    refine bd_eq e3 ?_
    have hbl := sum_le (k := 4) fun b hb => (body_code hok b hb).1
    have hul : (gBodies g).length ≤ 16 := by
      unfold gBodies
      rw [List.length_map]
      have hu : g.useful.length ≤ g.rules.length := useful_len
      have := hok.few.2
      omega
    refine bd_eq (x := (gBodies g).flatten) (bd_eq (x := gBodies g) (by rw [hR]; exact bodies_lc fun n hn => useful_at hn) (join_nil (by omega))) ?_
    refine bd_eq (x := (alphaOf g).map fun x => [x]) rfl ?_
    refine bd_eq (w_useful_ok g) ?_
    have eD := M.gd_pos (m := M.ok (!decide (g.useful = g.useful))) (And.intro (okd_nats g.useful) (okd_nats g.useful))
    rw [isnum_all, M.bd_ok, M.bd_ok, all_true, eD, decide_eq_true rfl]
    simp only [M.ite_ok, Bool.not_true, Bool.false_eq_true, if_false, M.bd_ok]
    have hu : g.useful.length ≤ g.rules.length := useful_len
    have h16 := hok.few.2
    refine bd_eq (x := g.useful ++ [99]) (by unfold M.snoc; exact M.gd_pos (by rw [sl64]; omega)) ?_
    refine bd_eq (alphabet_ok hok) ?_
    rw [join_nil (by rw [ones_sum]; have := alpha_len g; omega), ones_flat, M.bd_ok, decide_eq_true rfl]
    simp only [M.ite_ok, Bool.not_true, Bool.false_eq_true, if_false]
    rw [w_useful_ok, alphabet_ok hok, w_rules_ok]
    have eR := M.gd_pos (m := M.ok (decide (g.rules = R))) (And.intro (okd_rules hok.rok) (show Deep.okd (qL (rP rC qS)) R = true by rw [hR]; exact okd_rules hok.rok))
    have eE := M.gd_pos (m := M.ok (decide (g.useful = g.useful))) (And.intro (okd_nats g.useful) (okd_nats g.useful))
    rw [M.bd_ok, M.bd_ok, M.bd_ok, eR, eE, decide_eq_true rfl, decide_eq_true rfl, decide_eq_true hR.symm]
    rfl
  · have hW16 : W.length ≤ 15 := by omega
    rw [M.ite_ok]
    split
    · refine bd_eq (bd_eq (x := ns[3]?.getD 0) (bd_eq (w_cell_ok _ _) rfl) (M.gd_pos (by omega))) ?_
      refine bd_eq rfl ?_
      have hk : ((ns[3]?.getD 0) % ((W.length : Int) + 1)).toNat ≤ W.length := by
        have h1 := Int.emod_lt_of_pos (ns[3]?.getD 0) (show (0 : Int) < (W.length : Int) + 1 by omega)
        omega
      refine bd_eq (by unfold M.ins; exact M.gd_pos ⟨by rw [sl64]; omega, by rw [sl64]; omega⟩) ?_
      obtain ⟨c1, c2⟩ := cut4 (l := [97, 98, 99, 100, 101, 102, 103, 104, 105, 106, 107, 108, 109, 110, 111, 112, 113, 114, 115, 116, 117, 118, 119, 120, 121, 122, 48, 49, 50, 51, 52, 53, 54, 55, 56, 57, 40, 41, 91, 93, 123, 125, 43, 45, 42, 47, 44, 46, 59, 58, 33, 63]) (n := ((ns[2]?.getD 0) % 98).toNat)
      have h2 := hwd.ins c1 (fun c hc => decide_eq_true (c2 c hc)) ((ns[3]?.getD 0) % ((W.length : Int) + 1)).toNat
      refine hj _ (h2.ok ?_)
      unfold insAt
      simp only [List.length_append, List.length_take, List.length_drop, List.length_cons, List.length_nil]
      omega
    · exact hj _ (hwd.ok (by omega))
end SF
namespace SF
open PySem PySem.Spec PyProof.Rows L2
def sp_law (K : PySem.W.Frag) : Sp := fun vs H Q _ => ∃ (a : Addr) (ns : List Int), vs = [.ref a] ∧ SqL K H a (ns.map V.int) ∧ ns.length ≤ 63 ∧ ∀ H', Q (.bl true) H'
section
variable {P : Program} {w : World} {K : PySem.W.Frag} {mg : Str → Option Value} {base : Heap} {a : Ad}
theorem ok_law (T : Txt K mg a) : FnOk P w K mg base CX0 6 a.law a.d_law ["_law_script"] (sp_law K) :=
  ((ok_m_law T).mono (by decide)).imp fun vs H Q E h => by
    obtain ⟨b, ns, rfl, hs, h63, hq⟩ := h
    refine ⟨fun _ => none, (ns, ()), fun b o h => (by cases h), ⟨_, _, rfl, ⟨b, rfl, hs⟩, rfl⟩, ?_⟩
    show Po _ (m_law ns)
    rw [law_true ns]
    exact fun v F' H' e hr => by rw [show v = _ from hr]; exact hq H'
end
end SF
namespace SF
open PySem PySem.Spec PyProof.Rows L2
section
def dA_is_sign : He5.DefA := ⟨fun K => (He.ga K "is_sign"), "is_sign", "is_sign", defArgs s_is_sign, defBody s_is_sign, defScope s_is_sign, [], []⟩
def dA_is_name : He5.DefA := ⟨fun K => (He.ga K "is_name"), "is_name", "is_name", defArgs s_is_name, defBody s_is_name, defScope s_is_name, [], []⟩
def dA_is_body : He5.DefA := ⟨fun K => (He.ga K "is_body"), "is_body", "is_body", defArgs s_is_body, defBody s_is_body, defScope s_is_body, [], []⟩
def dA_names_in : He5.DefA := ⟨fun K => (He.ga K "names_in"), "names_in", "names_in", defArgs s_names_in, defBody s_names_in, defScope s_names_in, [], []⟩
def dA_least_lengths : He5.DefA := ⟨fun K => (He.ga K "least_lengths"), "least_lengths", "least_lengths", defArgs s_least_lengths, defBody s_least_lengths, defScope s_least_lengths, [], []⟩
def dA_useful_numbers : He5.DefA := ⟨fun K => (He.ga K "useful_numbers"), "useful_numbers", "useful_numbers", defArgs s_useful_numbers, defBody s_useful_numbers, defScope s_useful_numbers, [], []⟩
def dA_least_derivations : He5.DefA := ⟨fun K => (He.ga K "least_derivations"), "least_derivations", "least_derivations", defArgs s_least_derivations, defBody s_least_derivations, defScope s_least_derivations, [], []⟩
def dA_Table___init__ : He5.DefA := ⟨fun K => (He.ma K (He.ga K "Table") "__init__"), "__init__", "Table.__init__", defArgs s_Table___init__, defBody s_Table___init__, defScope s_Table___init__, [], []⟩
def dA_Grammar___init__ : He5.DefA := ⟨fun K => (He.ma K (He.ga K "Grammar") "__init__"), "__init__", "Grammar.__init__", defArgs s_Grammar___init__, defBody s_Grammar___init__, defScope s_Grammar___init__, [], [("root", .non)]⟩
def dA_Grammar_rules : He5.DefA := ⟨fun K => (He5.wf K (He.ga K "Grammar") "property" "rules"), "rules", "Grammar.rules", defArgs s_Grammar_rules, defBody s_Grammar_rules, defScope s_Grammar_rules, [], []⟩
def dA_Grammar_useful : He5.DefA := ⟨fun K => (He5.wf K (He.ga K "Grammar") "property" "useful"), "useful", "Grammar.useful", defArgs s_Grammar_useful, defBody s_Grammar_useful, defScope s_Grammar_useful, [], []⟩
def dA_Grammar_alphabet : He5.DefA := ⟨fun K => (He5.wf K (He.ga K "Grammar") "property" "alphabet"), "alphabet", "Grammar.alphabet", defArgs s_Grammar_alphabet, defBody s_Grammar_alphabet, defScope s_Grammar_alphabet, [], []⟩
def dA__law_cell : He5.DefA := ⟨fun K => (He.ga K "_law_cell"), "_law_cell", "_law_cell", defArgs s__law_cell, defBody s__law_cell, defScope s__law_cell, [], []⟩
def dA__law_draws : He5.DefA := ⟨fun K => (He.ga K "_law_draws"), "_law_draws", "_law_draws", defArgs s__law_draws, defBody s__law_draws, defScope s__law_draws, [], []⟩
def dA__law_names : He5.DefA := ⟨fun K => (He.ga K "_law_names"), "_law_names", "_law_names", defArgs s__law_names, defBody s__law_names, defScope s__law_names, [], []⟩
def dA__law_signs : He5.DefA := ⟨fun K => (He.ga K "_law_signs"), "_law_signs", "_law_signs", defArgs s__law_signs, defBody s__law_signs, defScope s__law_signs, [], []⟩
def dA__law_known : He5.DefA := ⟨fun K => (He.ga K "_law_known"), "_law_known", "_law_known", defArgs s__law_known, defBody s__law_known, defScope s__law_known, [], []⟩
def dA__law_grammar : He5.DefA := ⟨fun K => (He.ga K "_law_grammar"), "_law_grammar", "_law_grammar", defArgs s__law_grammar, defBody s__law_grammar, defScope s__law_grammar, [], []⟩
def dA__law_is_number : He5.DefA := ⟨fun K => (He.ga K "_law_is_number"), "_law_is_number", "_law_is_number", defArgs s__law_is_number, defBody s__law_is_number, defScope s__law_is_number, [], []⟩
def dA__law_live : He5.DefA := ⟨fun K => (He.ga K "_law_live"), "_law_live", "_law_live", defArgs s__law_live, defBody s__law_live, defScope s__law_live, [], []⟩
def dA__law_useful : He5.DefA := ⟨fun K => (He.ga K "_law_useful"), "_law_useful", "_law_useful", defArgs s__law_useful, defBody s__law_useful, defScope s__law_useful, [], []⟩
def dA__law_wider : He5.DefA := ⟨fun K => (He.ga K "_law_wider"), "_law_wider", "_law_wider", defArgs s__law_wider, defBody s__law_wider, defScope s__law_wider, [], []⟩
def dA_law : He5.DefA := ⟨fun K => (He.ga K "law"), "law", "law", defArgs s_law, defBody s_law, defScope s_law, [], []⟩
def fnA : List He5.DefA := [dA_is_sign, dA_is_name, dA_is_body, dA_names_in, dA_least_lengths, dA_useful_numbers, dA_least_derivations, dA_Table___init__, dA_Grammar___init__, dA_Grammar_rules, dA_Grammar_useful, dA_Grammar_alphabet, dA__law_cell, dA__law_draws, dA__law_names, dA__law_signs, dA__law_known, dA__law_grammar, dA__law_is_number, dA__law_live, dA__law_useful, dA__law_wider, dA_law]
def faA : List He.Fa := [.str "SIGNS" "abcdefghijklmnopqrstuvwxyz0123456789()[]{}+-*/,.;:!?", .int "MOST_SIGNS" 40, .int "MOST_PARTS" 4, .int "MOST_WORD" 24, .int "MOST_STEPS" 100, .free "len", .free "all", .free "sum", .free "sorted", .free "set", .free "range", .free "enumerate", .free "max", .free "list", .free "int", .free "isinstance", .free "str", .free "any", .free "bool", .glo "is_sign", .glo "is_name", .glo "is_body", .glo "names_in", .glo "least_lengths", .glo "useful_numbers", .glo "least_derivations", .mkr "Table", .mkr "Grammar", .glo "_law_cell", .glo "_law_draws", .glo "_law_names", .glo "_law_signs", .glo "_law_known", .glo "_law_grammar", .glo "_law_is_number", .glo "_law_live", .glo "_law_useful", .glo "_law_wider", .glo "law", .cls "Table", .glo "Table", .noat "Table" "pairs", .noat "Table" "numbers", .noat "Table" "vanishing", .noat "Table" "by_name", .cls "Grammar", .glo "Grammar", .noat "Grammar" "_rules", .noat "Grammar" "root", .noat "Grammar" "_useful", .noat "Grammar" "_best", .noat "Grammar" "forward", .noat "Grammar" "backward"]
def exL : List (PySem.W.Frag → Bool) := [fun K => propB K "Grammar" "rules", fun K => propB K "Grammar" "useful", fun K => propB K "Grammar" "alphabet", fun K => He.conB K "Grammar" "MOST_RULES" (.int 16), fun K => creadB K "Grammar", fun K => cvalB K "Grammar" "MOST_RULES" (.int 16)]
def exA (K : PySem.W.Frag) : Bool := exL.all fun e => e K
theorem exAt {K : PySem.W.Frag} (c : SaysP faA fnA exA K) (i : Nat) {e : PySem.W.Frag → Bool} (h : exL[i]? = some e := by rfl) : e K = true := List.all_eq_true.mp c.more e (List.mem_of_getElem? h)
theorem txt_of {K : PySem.W.Frag} {h : Heap} {mg : Str → Option Value} (X : K.In h) (G : h.Ns mainGlobals mg) (c : SaysP faA fnA exA K) : ∃ a : Ad, Txt K mg a ∧ a.law = He.ga K "law" ∧ (∀ (s : Shared) (v : Value), BindsTo s a.d_law ⟨[v], []⟩ [("_law_script", v)]) := by
  obtain ⟨fd_is_sign, F_is_sign⟩ := c.a.def_ 0 (d := dA_is_sign) rfl
  obtain ⟨fd_is_name, F_is_name⟩ := c.a.def_ 1 (d := dA_is_name) rfl
  obtain ⟨fd_is_body, F_is_body⟩ := c.a.def_ 2 (d := dA_is_body) rfl
  obtain ⟨fd_names_in, F_names_in⟩ := c.a.def_ 3 (d := dA_names_in) rfl
  obtain ⟨fd_least_lengths, F_least_lengths⟩ := c.a.def_ 4 (d := dA_least_lengths) rfl
  obtain ⟨fd_useful_numbers, F_useful_numbers⟩ := c.a.def_ 5 (d := dA_useful_numbers) rfl
  obtain ⟨fd_least_derivations, F_least_derivations⟩ := c.a.def_ 6 (d := dA_least_derivations) rfl
  obtain ⟨fd_Table___init__, F_Table___init__⟩ := c.a.def_ 7 (d := dA_Table___init__) rfl
  obtain ⟨fd_Grammar___init__, F_Grammar___init__⟩ := c.a.def_ 8 (d := dA_Grammar___init__) rfl
  obtain ⟨fd_Grammar_rules, F_Grammar_rules⟩ := c.a.def_ 9 (d := dA_Grammar_rules) rfl
  obtain ⟨fd_Grammar_useful, F_Grammar_useful⟩ := c.a.def_ 10 (d := dA_Grammar_useful) rfl
  obtain ⟨fd_Grammar_alphabet, F_Grammar_alphabet⟩ := c.a.def_ 11 (d := dA_Grammar_alphabet) rfl
  obtain ⟨fd__law_cell, F__law_cell⟩ := c.a.def_ 12 (d := dA__law_cell) rfl
  obtain ⟨fd__law_draws, F__law_draws⟩ := c.a.def_ 13 (d := dA__law_draws) rfl
  obtain ⟨fd__law_names, F__law_names⟩ := c.a.def_ 14 (d := dA__law_names) rfl
  obtain ⟨fd__law_signs, F__law_signs⟩ := c.a.def_ 15 (d := dA__law_signs) rfl
  obtain ⟨fd__law_known, F__law_known⟩ := c.a.def_ 16 (d := dA__law_known) rfl
  obtain ⟨fd__law_grammar, F__law_grammar⟩ := c.a.def_ 17 (d := dA__law_grammar) rfl
  obtain ⟨fd__law_is_number, F__law_is_number⟩ := c.a.def_ 18 (d := dA__law_is_number) rfl
  obtain ⟨fd__law_live, F__law_live⟩ := c.a.def_ 19 (d := dA__law_live) rfl
  obtain ⟨fd__law_useful, F__law_useful⟩ := c.a.def_ 20 (d := dA__law_useful) rfl
  obtain ⟨fd__law_wider, F__law_wider⟩ := c.a.def_ 21 (d := dA__law_wider) rfl
  obtain ⟨fd_law, F_law⟩ := c.a.def_ 22 (d := dA_law) rfl
  have b := FunD.bindsA (ps := ["_law_script"]) F_law fun _ _ _ _ _ _ us hl => match us, hl with | [_], _ => rfl
  refine ⟨{ is_sign := (He.ga K "is_sign"), d_is_sign := fd_is_sign, is_name := (He.ga K "is_name"), d_is_name := fd_is_name, is_body := (He.ga K "is_body"), d_is_body := fd_is_body, names_in := (He.ga K "names_in"), d_names_in := fd_names_in, least_lengths := (He.ga K "least_lengths"), d_least_lengths := fd_least_lengths, useful_numbers := (He.ga K "useful_numbers"), d_useful_numbers := fd_useful_numbers, least_derivations := (He.ga K "least_derivations"), d_least_derivations := fd_least_derivations, Table___init__ := (He.ma K (He.ga K "Table") "__init__"), d_Table___init__ := fd_Table___init__, Grammar___init__ := (He.ma K (He.ga K "Grammar") "__init__"), d_Grammar___init__ := fd_Grammar___init__, Grammar_rules := (He5.wf K (He.ga K "Grammar") "property" "rules"), d_Grammar_rules := fd_Grammar_rules, Grammar_useful := (He5.wf K (He.ga K "Grammar") "property" "useful"), d_Grammar_useful := fd_Grammar_useful, Grammar_alphabet := (He5.wf K (He.ga K "Grammar") "property" "alphabet"), d_Grammar_alphabet := fd_Grammar_alphabet, _law_cell := (He.ga K "_law_cell"), d__law_cell := fd__law_cell, _law_draws := (He.ga K "_law_draws"), d__law_draws := fd__law_draws, _law_names := (He.ga K "_law_names"), d__law_names := fd__law_names, _law_signs := (He.ga K "_law_signs"), d__law_signs := fd__law_signs, _law_known := (He.ga K "_law_known"), d__law_known := fd__law_known, _law_grammar := (He.ga K "_law_grammar"), d__law_grammar := fd__law_grammar, _law_is_number := (He.ga K "_law_is_number"), d__law_is_number := fd__law_is_number, _law_live := (He.ga K "_law_live"), d__law_live := fd__law_live, _law_useful := (He.ga K "_law_useful"), d__law_useful := fd__law_useful, _law_wider := (He.ga K "_law_wider"), d__law_wider := fd__law_wider, law := (He.ga K "law"), d_law := fd_law, Table := He.ga K "Table", Grammar := He.ga K "Grammar", pr_Grammar_rules := He.ma K (He.ga K "Grammar") "rules", pr_Grammar_useful := He.ma K (He.ga K "Grammar") "useful", pr_Grammar_alphabet := He.ma K (He.ga K "Grammar") "alphabet" }, ⟨He.str_ok X G (c.a.fact 0 (f := .str "SIGNS" "abcdefghijklmnopqrstuvwxyz0123456789()[]{}+-*/,.;:!?") rfl),
    He.int_ok X G (c.a.fact 1 (f := .int "MOST_SIGNS" 40) rfl),
    He.int_ok X G (c.a.fact 2 (f := .int "MOST_PARTS" 4) rfl),
    He.int_ok X G (c.a.fact 3 (f := .int "MOST_WORD" 24) rfl),
    He.int_ok X G (c.a.fact 4 (f := .int "MOST_STEPS" 100) rfl),
    He.free_ok X G (c.a.fact 5 (f := .free "len") rfl),
    He.free_ok X G (c.a.fact 6 (f := .free "all") rfl),
    He.free_ok X G (c.a.fact 7 (f := .free "sum") rfl),
    He.free_ok X G (c.a.fact 8 (f := .free "sorted") rfl),
    He.free_ok X G (c.a.fact 9 (f := .free "set") rfl),
    He.free_ok X G (c.a.fact 10 (f := .free "range") rfl),
    He.free_ok X G (c.a.fact 11 (f := .free "enumerate") rfl),
    He.free_ok X G (c.a.fact 12 (f := .free "max") rfl),
    He.free_ok X G (c.a.fact 13 (f := .free "list") rfl),
    He.free_ok X G (c.a.fact 14 (f := .free "int") rfl),
    He.free_ok X G (c.a.fact 15 (f := .free "isinstance") rfl),
    He.free_ok X G (c.a.fact 16 (f := .free "str") rfl),
    He.free_ok X G (c.a.fact 17 (f := .free "any") rfl),
    He.free_ok X G (c.a.fact 18 (f := .free "bool") rfl),
    He5.fun_of F_is_sign,
    F_is_sign.bindsN fun _ _ _ _ _ _ us hl => match us, hl with | [_], _ => rfl,
    He.glo_ok X G (c.a.fact 19 (f := .glo "is_sign") rfl),
    He5.fun_of F_is_name,
    F_is_name.bindsN fun _ _ _ _ _ _ us hl => match us, hl with | [_], _ => rfl,
    He.glo_ok X G (c.a.fact 20 (f := .glo "is_name") rfl),
    He5.fun_of F_is_body,
    F_is_body.bindsN fun _ _ _ _ _ _ us hl => match us, hl with | [_], _ => rfl,
    He.glo_ok X G (c.a.fact 21 (f := .glo "is_body") rfl),
    He5.fun_of F_names_in,
    F_names_in.bindsN fun _ _ _ _ _ _ us hl => match us, hl with | [_], _ => rfl,
    He.glo_ok X G (c.a.fact 22 (f := .glo "names_in") rfl),
    He5.fun_of F_least_lengths,
    F_least_lengths.bindsN fun _ _ _ _ _ _ us hl => match us, hl with | [_], _ => rfl,
    He.glo_ok X G (c.a.fact 23 (f := .glo "least_lengths") rfl),
    He5.fun_of F_useful_numbers,
    F_useful_numbers.bindsN fun _ _ _ _ _ _ us hl => match us, hl with | [_, _, _], _ => rfl,
    He.glo_ok X G (c.a.fact 24 (f := .glo "useful_numbers") rfl),
    He5.fun_of F_least_derivations,
    F_least_derivations.bindsN fun _ _ _ _ _ _ us hl => match us, hl with | [_, _, _], _ => rfl,
    He.glo_ok X G (c.a.fact 25 (f := .glo "least_derivations") rfl),
    He5.fun_of F_Table___init__,
    F_Table___init__.bindsN fun _ _ _ _ _ _ us hl => match us, hl with | [_, _, _, _], _ => rfl,
    He.mkr_ok (c.a.fact 26 (f := .mkr "Table") rfl),
    F_Grammar___init__,
    F_Grammar___init__.kp,
    He.mkr_ok (c.a.fact 27 (f := .mkr "Grammar") rfl),
    He5.fun_of F_Grammar_rules,
    F_Grammar_rules.bindsN fun _ _ _ _ _ _ us hl => match us, hl with | [_], _ => rfl,
    propB_ok (exAt c 0),
    He5.fun_of F_Grammar_useful,
    F_Grammar_useful.bindsN fun _ _ _ _ _ _ us hl => match us, hl with | [_], _ => rfl,
    propB_ok (exAt c 1),
    He5.fun_of F_Grammar_alphabet,
    F_Grammar_alphabet.bindsN fun _ _ _ _ _ _ us hl => match us, hl with | [_], _ => rfl,
    propB_ok (exAt c 2),
    He5.fun_of F__law_cell,
    F__law_cell.bindsN fun _ _ _ _ _ _ us hl => match us, hl with | [_, _], _ => rfl,
    He.glo_ok X G (c.a.fact 28 (f := .glo "_law_cell") rfl),
    He5.fun_of F__law_draws,
    F__law_draws.bindsN fun _ _ _ _ _ _ us hl => match us, hl with | [_, _], _ => rfl,
    He.glo_ok X G (c.a.fact 29 (f := .glo "_law_draws") rfl),
    He5.fun_of F__law_names,
    F__law_names.bindsN fun _ _ _ _ _ _ us hl => match us, hl with | [_], _ => rfl,
    He.glo_ok X G (c.a.fact 30 (f := .glo "_law_names") rfl),
    He5.fun_of F__law_signs,
    F__law_signs.bindsN fun _ _ _ _ _ _ us hl => match us, hl with | [_], _ => rfl,
    He.glo_ok X G (c.a.fact 31 (f := .glo "_law_signs") rfl),
    He5.fun_of F__law_known,
    F__law_known.bindsN fun _ _ _ _ _ _ us hl => match us, hl with | [_, _, _], _ => rfl,
    He.glo_ok X G (c.a.fact 32 (f := .glo "_law_known") rfl),
    He5.fun_of F__law_grammar,
    F__law_grammar.bindsN fun _ _ _ _ _ _ us hl => match us, hl with | [_], _ => rfl,
    He.glo_ok X G (c.a.fact 33 (f := .glo "_law_grammar") rfl),
    He5.fun_of F__law_is_number,
    F__law_is_number.bindsN fun _ _ _ _ _ _ us hl => match us, hl with | [_], _ => rfl,
    He.glo_ok X G (c.a.fact 34 (f := .glo "_law_is_number") rfl),
    He5.fun_of F__law_live,
    F__law_live.bindsN fun _ _ _ _ _ _ us hl => match us, hl with | [_, _], _ => rfl,
    He.glo_ok X G (c.a.fact 35 (f := .glo "_law_live") rfl),
    He5.fun_of F__law_useful,
    F__law_useful.bindsN fun _ _ _ _ _ _ us hl => match us, hl with | [_, _], _ => rfl,
    He.glo_ok X G (c.a.fact 36 (f := .glo "_law_useful") rfl),
    He5.fun_of F__law_wider,
    F__law_wider.bindsN fun _ _ _ _ _ _ us hl => match us, hl with | [_, _, _], _ => rfl,
    He.glo_ok X G (c.a.fact 37 (f := .glo "_law_wider") rfl),
    He5.fun_of F_law,
    F_law.bindsN fun _ _ _ _ _ _ us hl => match us, hl with | [_], _ => rfl,
    He.glo_ok X G (c.a.fact 38 (f := .glo "law") rfl),
    He.cls_ok (c.a.fact 39 (f := .cls "Table") rfl),
    He.glo_ok X G (c.a.fact 40 (f := .glo "Table") rfl),
    He.noat_ok (c.a.fact 41 (f := .noat "Table" "pairs") rfl),
    He.noat_ok (c.a.fact 42 (f := .noat "Table" "numbers") rfl),
    He.noat_ok (c.a.fact 43 (f := .noat "Table" "vanishing") rfl),
    He.noat_ok (c.a.fact 44 (f := .noat "Table" "by_name") rfl),
    He.cls_ok (c.a.fact 45 (f := .cls "Grammar") rfl),
    He.glo_ok X G (c.a.fact 46 (f := .glo "Grammar") rfl),
    He.noat_ok (c.a.fact 47 (f := .noat "Grammar" "_rules") rfl),
    He.noat_ok (c.a.fact 48 (f := .noat "Grammar" "root") rfl),
    He.noat_ok (c.a.fact 49 (f := .noat "Grammar" "_useful") rfl),
    He.noat_ok (c.a.fact 50 (f := .noat "Grammar" "_best") rfl),
    He.noat_ok (c.a.fact 51 (f := .noat "Grammar" "forward") rfl),
    He.noat_ok (c.a.fact 52 (f := .noat "Grammar" "backward") rfl),
    He.conB_ok (exAt c 3),
    creadB_ok (exAt c 4),
    cvalB_ok (exAt c 5)⟩, rfl, fun s v => b s [v] rfl⟩
end
abbrev R : PySem.W.OpenRow := PySem.W.OpenLaw.row PySem.Challenge.rw_surefaults_k09_whole_useful_rules
def loose : List PySem.Str := (["_wall", "__name__", "SureError", "BadCount", "BadRule", "BadLine", "UnknownName", "NoValidText", "TooLong", "TooManySteps", "BadSign", "SIGNS", "MOST_SIGNS", "is_sign", "check_text", "Table", "Column", "first_column", "consequences", "next_column", "first_end", "MOST_PARTS", "MOST_WORD", "MOST_STEPS", "is_name", "is_body", "names_in", "least_lengths", "useful_numbers", "least_derivations"] : List PySem.Str) ++ (["rules_of_line", "Grammar", "_law_cell", "_law_is_number", "_law_draws", "_law_names", "_law_signs", "_law_known", "_law_grammar", "_law_live", "_law_useful", "_law_wider"] : List PySem.Str)
abbrev hk : PySem.W.Hook := hookP 7 faA fnA exA
def ob (s : PySem.W.SharedT) : AlP := obsPG 7 faA fnA exA (HandSHeadRun.getT s)
theorem ob_eq (s : PySem.W.SharedT) : ob s = hk.obs s.abs := obsPG_eq (HandSHeadRun.getT_eq s)
set_option maxHeartbeats 0 in
theorem run (w : World) : HandSHeadRun.RunEq R (PySem.W.view R.prog [45]) hk ob 200000 loose w := by
  intro os
  kernel_rfl
end SF
open PySem PySem.W PySem.Calls PyProof.Rows
set_option maxRecDepth 100000 in
set_option maxHeartbeats 0 in
theorem PySem.Challenge.cw_surefaults_k09_whole_useful_rules_holds : PySem.Challenge.rw_surefaults_k09_whole_useful_rules.Holds := by
  w_on; o_law
  refine HandSHeadRun.head_any (r := OpenLaw.row PySem.Challenge.rw_surefaults_k09_whole_useful_rules) (q := view (OpenLaw.row PySem.Challenge.rw_surefaults_k09_whole_useful_rules).prog [45]) (H := SF.hk) (ob := SF.ob) (M := 200000) (loose := SF.loose) (d := HandSHeadRun.topDef (OpenLaw.row PySem.Challenge.rw_surefaults_k09_whole_useful_rules).prog 45) (kwd := []) SF.ob_eq
    (by kernel_rfl) (fun s => by kernel_rfl) SF.run (by kernel_rfl) (by kernel_rfl) (by kernel_rfl) (by rfl) (by first | assumption | decide +kernel) (by decide +kernel) ⟨rfl, rfl, rfl, rfl, rfl, by decide +kernel⟩ ?hw ?hc
  case hw => w_witness2
  case hc =>
    refine L2.walk_ofE (l := PySem.Challenge.rw_surefaults_k09_whole_useful_rules) (n := 63) (k := 6) (x := "_law_script") (CX := L2.CX0) rfl (by decide) (by kernel_rfl) ⟨rfl, by decide, by decide⟩ ?F (fun _ _ _ _ z => z)
    intro w mg fa h Y G hmg0
    obtain ⟨K, KX, c⟩ := Y
    have hmg : mg ("law" : PySem.Str) = some (.ref fa) := by
      have e : (HandSHeadRun.topDef (OpenLaw.row PySem.Challenge.rw_surefaults_k09_whole_useful_rules).prog 45).name = ("law" : PySem.Str) := by kernel_rfl
      rw [← e]
      exact hmg0
    obtain ⟨a, T, ha, hb⟩ := SF.txt_of KX G c
    have e := hmg.symm.trans T.m_law
    injection e with e
    injection e with e
    subst e
    exact ⟨K, a.d_law, SF.sp_law K, KX, hb, fun H a ns hl _ hS => ⟨a, ns, rfl, hS, hl, fun _ => rfl⟩, fun base _ _ => SF.ok_law T⟩
