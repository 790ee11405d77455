import PyProof.Rows.All
import Wide.All
import OpenK.AllK
import Wide.FinOn
import HandS.ForMost
import HandS.Style
import HandS.Wide
import HandS.Walk
import HandS.Defaults
import HandS.MakeKwOnly
import HandS.Property
import HandS.DictComp
import HandS.IsInst
import HandS.ClsMeth
import HandS.More
import HandS.Conv
import KE.LtData
import KE.DatumOrd
import HandS.SetTxt0
import HandS.Set
import HandS.TupSets
import KE.KRevSl
import KE.KStateDown
import HandS.Head0
import HandS.Head1
import HandS.Head2
import HandS.HeadEnd
import HandS.HeadHook1
import HandS.HeadHook2
import HandS.HeadHook3
import HandS.HeadNt
import HandS.SlotsOwn
import PyProof.DictCompW
import HandS.Star
import HandS.TupLen
import HandS.SetBool
import PyProof.Draws
import KE.GoesMore
import PyProof.StrBlock2
import PyProof.Rows.StrMul
import KE.SortData
import KE.KDictSum
import HandS.Deep
import HandS.ExcInit
import HandS.ExcField
import HandS.ExcOwn
import HandS.WordsExc
import HandS.Nested
import KE.KExcSuper
import HandS.ExcIs
import HandS.ExcValue
import HandS.RaiseFrom
import PySem.Challenge.RW_surefaults_k04_errors
set_option Elab.async false
set_option linter.all false
set_option maxRecDepth 100000
set_option maxHeartbeats 4000000
namespace SF
def SIGNSl : List Nat := [97, 98, 99, 100, 101, 102, 103, 104, 105, 106, 107, 108, 109, 110, 111, 112, 113, 114, 115, 116, 117, 118, 119, 120, 121, 122, 48, 49, 50, 51, 52, 53, 54, 55, 56, 57, 40, 41, 91, 93, 123, 125, 43, 45, 42, 47, 44, 46, 59, 58, 33, 63]
def sgn (c : Nat) : Bool := decide (c ∈ SIGNSl)
def nam (c : Nat) : Bool := decide (65 ≤ c ∧ c ≤ 90)
theorem nam_iff {c : Nat} : nam c = true ↔ 65 ≤ c ∧ c ≤ 90 := by simp [nam]
def isSign : List Nat → Bool
  | [c] => sgn c
  | _ => false
def isName : List Nat → Bool
  | [c] => nam c
  | _ => false
def isBody (l : List Nat) : Bool := decide (l.length ≤ 4) && l.all fun c => sgn c || nam c
/-- the names of a body, in order -/
def namesIn (l : List Nat) : List Nat := l.filter nam
/-- one sign or name as a text -/
abbrev ch1 (l : List Nat) : List (List Nat) := l.map fun c => [c]
abbrev Rule := Nat × List Nat
structure Tri (α β γ : Type) where
  a : α
  b : β
  c : γ
  deriving DecidableEq, Repr
/-! ### a dict as the list of its pairs -/
section
variable {κ κ' α β : Type} [DecidableEq κ] [DecidableEq κ']
def aGet (m : List (κ × α)) (k : κ) : Option α := (m.find? fun p => decide (p.1 = k)).map (·.2)
def aPut (m : List (κ × α)) (k : κ) (x : α) : List (κ × α) :=
  if (m.any fun p => decide (p.1 = k)) = true then m.map (fun p => if p.1 = k then (p.1, x) else p) else m ++ [(k, x)]
theorem aGet_nil {k : κ} : aGet ([] : List (κ × α)) k = none := rfl
theorem aGet_cons {p : κ × α} {m : List (κ × α)} {k : κ} : aGet (p :: m) k = if p.1 = k then some p.2 else aGet m k := by
  unfold aGet
  by_cases h : p.1 = k
  · simp [List.find?_cons, h]
  · simp [List.find?_cons, h]
theorem aGet_any (k : κ) (m : List (κ × α)) : (m.any fun p => decide (p.1 = k)) = (aGet m k).isSome := by
  induction m with
  | nil => rfl
  | cons p r ih =>
    rw [List.any_cons, aGet_cons, ih]
    by_cases h : p.1 = k
    · simp [h]
    · simp [h]
theorem aGet_app {m m2 : List (κ × α)} {k : κ} : aGet (m ++ m2) k = (aGet m k).or (aGet m2 k) := by
  induction m with
  | nil => rfl
  | cons p r ih =>
    rw [List.cons_append, aGet_cons, aGet_cons, ih]
    by_cases h : p.1 = k
    · simp [h]
    · simp [h]
theorem aGet_map (k j : κ) (x : α) (m : List (κ × α)) : aGet (m.map fun p => if p.1 = k then (p.1, x) else p) j = (aGet m j).map fun y => if j = k then x else y := by
  induction m with
  | nil => rfl
  | cons p r ih =>
    rw [List.map_cons, aGet_cons, aGet_cons, ih]
    by_cases h : p.1 = k
    · by_cases h2 : p.1 = j
      · have e : k = j := h.symm.trans h2
        simp [h, e]
      · simp [h]
        have : k ≠ j := fun e => h2 (h.trans e)
        simp [this]
    · by_cases h2 : p.1 = j
      · have : ¬ j = k := fun e => h (h2.trans e)
        simp [h, h2, this]
      · simp [h, h2]
theorem aGet_put (m : List (κ × α)) (k j : κ) (x : α) : aGet (aPut m k x) j = if j = k then some x else aGet m j := by
  unfold aPut
  by_cases h : (m.any fun p => decide (p.1 = k)) = true
  · rw [if_pos h, aGet_map]
    by_cases e : j = k
    · subst e
      rw [aGet_any] at h
      cases q : aGet m j with
      | none => rw [q] at h; exact absurd h (by simp)
      | some y => simp
    · simp [e]
  · rw [if_neg h, aGet_app, aGet_cons]
    rw [aGet_any] at h
    have hn : aGet m k = none := by
      cases q : aGet m k with
      | none => rfl
      | some y => rw [q] at h; simp at h
    by_cases e : j = k
    · subst e; rw [hn]; simp
    · have e' : ¬ k = j := fun z => e z.symm
      simp [e, e', aGet_nil]
theorem aGet_mem {m : List (κ × α)} {k : κ} {x : α} (h : aGet m k = some x) : (k, x) ∈ m := by
  induction m with
  | nil => cases h
  | cons p r ih =>
    rw [aGet_cons] at h
    by_cases e : p.1 = k
    · rw [if_pos e] at h
      cases h
      subst e
      exact List.mem_cons_self
    · rw [if_neg e] at h
      exact List.mem_cons_of_mem _ (ih h)
theorem aGet_of_mem {m : List (κ × α)} {k : κ} {x : α} (hn : (m.map (·.1)).Nodup) (h : (k, x) ∈ m) : aGet m k = some x := by
  induction m with
  | nil => cases h
  | cons p r ih =>
    rw [aGet_cons]
    rw [List.map_cons, List.nodup_cons] at hn
    rcases List.mem_cons.mp h with rfl | h
    · simp
    · have : ¬ p.1 = k := fun e => hn.1 (by rw [e]; exact List.mem_map_of_mem (f := (·.1)) h)
      rw [if_neg this]
      exact ih hn.2 h
theorem aGet_none {m : List (κ × α)} {k : κ} : aGet m k = none ↔ k ∉ m.map (·.1) := by
  induction m with
  | nil => simp [aGet_nil]
  | cons p r ih =>
    rw [aGet_cons]
    by_cases e : p.1 = k
    · simp [e]
    · have e' : ¬ k = p.1 := fun z => e z.symm
      rw [if_neg e, ih]
      simp [e']
theorem aPut_keys (m : List (κ × α)) (k : κ) (x : α) : (aPut m k x).map (·.1) = if (aGet m k).isSome then m.map (·.1) else m.map (·.1) ++ [k] := by
  unfold aPut
  rw [aGet_any]
  by_cases h : (aGet m k).isSome = true
  · rw [if_pos h, if_pos h, List.map_map]
    apply List.map_congr_left
    intro p _
    show (if p.1 = k then (p.1, x) else p).1 = p.1
    split <;> rfl
  · rw [if_neg h, if_neg h, List.map_append]; rfl
theorem aPut_nodup {m : List (κ × α)} {k : κ} {x : α} (h : (m.map (·.1)).Nodup) : ((aPut m k x).map (·.1)).Nodup := by
  rw [aPut_keys]
  split
  · exact h
  · rename_i q
    have hk : k ∉ m.map (·.1) := aGet_none.mp (by cases z : aGet m k with | none => rfl | some y => rw [z] at q; simp at q)
    rw [List.nodup_append]
    exact ⟨h, by simp, fun a ha b hb => by simp at hb; subst hb; exact fun e => hk (e ▸ ha)⟩
theorem aPut_length (m : List (κ × α)) (k : κ) (x : α) : (aPut m k x).length = if (aGet m k).isSome then m.length else m.length + 1 := by
  have := congrArg List.length (aPut_keys m k x)
  rw [List.length_map] at this
  rw [this]
  split <;> simp
end
/-- distinct members of a list are no more than its items -/
theorem nodup_le {α : Type} [DecidableEq α] : ∀ {l s : List α}, l.Nodup → (∀ x ∈ l, x ∈ s) → l.length ≤ s.length
  | [], _, _, _ => Nat.zero_le _
  | a :: l, s, hn, hs => by
    rw [List.nodup_cons] at hn
    have ha : a ∈ s := hs a List.mem_cons_self
    have ih := nodup_le (l := l) (s := s.erase a) hn.2 fun x hx => by
      have hne : x ≠ a := fun e => hn.1 (e ▸ hx)
      exact (List.mem_erase_of_ne hne).mpr (hs x (List.mem_cons_of_mem _ hx))
    rw [List.length_erase_of_mem ha] at ih
    have : 0 < s.length := List.length_pos_of_mem ha
    simp only [List.length_cons]
    omega
/-- as many items as distinct members: no item twice -/
theorem nodup_of_len {α : Type} [DecidableEq α] : ∀ {s l : List α}, l.Nodup → (∀ x ∈ l, x ∈ s) → s.length = l.length → s.Nodup
  | [], _, _, _, _ => List.nodup_nil
  | a :: s, l, hn, hs, hlen => by
    by_cases ha : a ∈ s
    · have h2 : ∀ x ∈ l, x ∈ s := fun x hx => by
        rcases List.mem_cons.mp (hs x hx) with z | z
        · rw [z]; exact ha
        · exact z
      have := nodup_le hn h2
      simp only [List.length_cons] at hlen
      omega
    · rw [List.nodup_cons]
      refine ⟨ha, ?_⟩
      by_cases hal : a ∈ l
      · refine nodup_of_len (l := l.erase a) (hn.erase a) (fun x hx => ?_) ?_
        · have hx' := List.mem_of_mem_erase hx
          rcases List.mem_cons.mp (hs x hx') with z | z
          · subst z; exact absurd hx (List.Nodup.not_mem_erase hn)
          · exact z
        · rw [List.length_erase_of_mem hal]
          simp only [List.length_cons] at hlen
          omega
      · have h2 : ∀ x ∈ l, x ∈ s := fun x hx => by
          rcases List.mem_cons.mp (hs x hx) with z | z
          · subst z; exact absurd hx hal
          · exact z
        have := nodup_le hn h2
        simp only [List.length_cons] at hlen
        omega
theorem nam_few {l : List Nat} (hn : l.Nodup) (hs : ∀ x ∈ l, nam x = true) : l.length ≤ 26 := by
  have := nodup_le (s := (List.range 26).map (· + 65)) hn fun x hx => by
    have := nam_iff.mp (hs x hx)
    rw [List.mem_map]
    exact ⟨x - 65, List.mem_range.mpr (by omega), by omega⟩
  simpa using this
/-! ### sums with one place changed -/
theorem sum_change (f g : Nat → Nat) (j : Nat) (hg : ∀ i, i ≠ j → g i = f i) : ∀ k, ((List.range k).map g).sum + (if j < k then f j else 0) = ((List.range k).map f).sum + (if j < k then g j else 0)
  | 0 => by simp
  | k + 1 => by
    have ih := sum_change f g j hg k
    rw [List.range_succ, List.map_append, List.map_append, List.sum_append, List.sum_append]
    simp only [List.map_cons, List.map_nil, List.sum_cons, List.sum_nil, Nat.add_zero]
    by_cases h1 : j < k
    · rw [if_pos h1, if_pos h1] at ih
      rw [if_pos (by omega), if_pos (by omega), hg k (by omega)]
      omega
    · rw [if_neg h1, if_neg h1] at ih
      by_cases h2 : j = k
      · subst h2
        rw [if_pos (by omega), if_pos (by omega)]
        omega
      · rw [if_neg (by omega), if_neg (by omega), hg k (fun e => h2 e.symm)]
        omega
/-! ### least lengths -/
/-- the sum of what the parts have -/
def total (m : List (Nat × Nat)) (b : List Nat) : Nat := b.length - (namesIn b).length + ((namesIn b).map fun c => (aGet m c).getD 0).sum
def allIn {α : Type} (m : List (Nat × α)) (b : List Nat) : Bool := (namesIn b).all fun c => (aGet m c).isSome
/-- total < what stands there, or nothing stands there -/
def better (m : List (Nat × Nat)) (r : Rule) : Bool := match aGet m r.1 with
  | none => true
  | some x => decide (total m r.2 < x)
def llStep (st : List (Nat × Nat) × Bool) (r : Rule) : List (Nat × Nat) × Bool :=
  if allIn st.1 r.2 = true then (if better st.1 r = true then (aPut st.1 r.1 (total st.1 r.2), true) else st) else st
def llRound (rules : List Rule) (m : List (Nat × Nat)) : List (Nat × Nat) × Bool := rules.foldl llStep (m, false)
/-- rounds until nothing changes -/
def rounds {α : Type} (f : α → α × Bool) : Nat → α → α
  | 0, m => m
  | n + 1, m => if (f m).2 = true then rounds f n (f m).1 else (f m).1
def BIG : Nat := 4 ^ 28
def mu (m : List (Nat × Nat)) : Nat := ((List.range 26).map fun i => (aGet m (65 + i)).getD BIG).sum
def llFuel : Nat := mu [] + 1
def leastLengths (rules : List Rule) : List (Nat × Nat) := rounds (llRound rules) llFuel []
/-- what holds of the lengths at each time -/
structure LLok (m : List (Nat × Nat)) : Prop where
  nd : (m.map (·.1)).Nodup
  nm : ∀ c ∈ m.map (·.1), nam c = true
  le : ∀ c x, aGet m c = some x → x ≤ 4 ^ m.length
theorem LLok.few {m : List (Nat × Nat)} (h : LLok m) : m.length ≤ 26 := by
  have := nam_few h.nd h.nm
  rwa [List.length_map] at this
theorem LLok.nil : LLok [] := ⟨by simp, by simp, fun c x h => by cases h⟩
theorem namesIn_le (b : List Nat) : (namesIn b).length ≤ b.length := List.length_filter_le _ _
theorem sum_le_mul {α : Type} (f : α → Nat) (B : Nat) : ∀ (l : List α), (∀ c ∈ l, f c ≤ B) → (l.map f).sum ≤ l.length * B
  | [], _ => by simp
  | a :: l, h => by
    have ih := sum_le_mul f B l fun c hc => h c (List.mem_cons_of_mem _ hc)
    have := h a List.mem_cons_self
    simp only [List.map_cons, List.sum_cons, List.length_cons, Nat.succ_mul]
    omega
theorem pow4_pos (n : Nat) : 1 ≤ 4 ^ n := Nat.pow_pos (by decide)
theorem total_le {m : List (Nat × Nat)} (h : LLok m) {b : List Nat} (hb : b.length ≤ 4) : total m b ≤ 4 ^ (m.length + 1) := by
  unfold total
  have h1 := namesIn_le b
  have h2 := sum_le_mul (fun c => (aGet m c).getD 0) (4 ^ m.length) (namesIn b) fun c _ => by
    cases q : aGet m c with
    | none => simp
    | some x => exact h.le c x q
  have h3 := pow4_pos m.length
  have h4 : (b.length - (namesIn b).length) * 1 ≤ (b.length - (namesIn b).length) * 4 ^ m.length := Nat.mul_le_mul_left _ h3
  have h5 : (b.length - (namesIn b).length) * 4 ^ m.length + (namesIn b).length * 4 ^ m.length = b.length * 4 ^ m.length := by
    rw [← Nat.add_mul]
    congr 1
    omega
  have h6 : b.length * 4 ^ m.length ≤ 4 * 4 ^ m.length := Nat.mul_le_mul_right _ hb
  rw [Nat.pow_succ, Nat.mul_comm]
  omega
theorem LLok.put {m : List (Nat × Nat)} (h : LLok m) {r : Rule} (hn : nam r.1 = true) (hb : r.2.length ≤ 4) : better m r = true → LLok (aPut m r.1 (total m r.2)) := fun hbt => by
  refine ⟨aPut_nodup h.nd, fun c hc => ?_, fun c x hx => ?_⟩
  · rw [aPut_keys] at hc
    split at hc
    · exact h.nm c hc
    · rcases List.mem_append.mp hc with hc | hc
      · exact h.nm c hc
      · simp at hc; subst hc; exact hn
  · rw [aGet_put] at hx
    rw [aPut_length]
    unfold better at hbt
    by_cases e : c = r.1
    · subst e
      rw [if_pos rfl] at hx
      cases hx
      cases q : aGet m r.1 with
      | none => simp only [Option.isSome_none, Bool.false_eq_true, if_false]; exact total_le h hb
      | some y =>
        rw [q] at hbt
        have := h.le _ _ q
        simp only [Option.isSome_some, if_true]
        have : total m r.2 < y := of_decide_eq_true hbt
        omega
    · rw [if_neg e] at hx
      have := h.le _ _ hx
      split
      · exact this
      · have := Nat.pow_le_pow_right (show 0 < 4 by decide) (show m.length ≤ m.length + 1 by omega)
        omega
theorem mu_put {m : List (Nat × Nat)} (h : LLok m) {r : Rule} (hn : nam r.1 = true) (hb : r.2.length ≤ 4) (hbt : better m r = true) : mu (aPut m r.1 (total m r.2)) < mu m := by
  have hr := nam_iff.mp hn
  have key := sum_change (fun i => (aGet m (65 + i)).getD BIG) (fun i => (aGet (aPut m r.1 (total m r.2)) (65 + i)).getD BIG) (r.1 - 65) (fun i hi => by
    show (aGet (aPut m r.1 (total m r.2)) (65 + i)).getD BIG = _
    rw [aGet_put, if_neg (by omega)]) 26
  rw [if_pos (by omega), if_pos (by omega)] at key
  have e : 65 + (r.1 - 65) = r.1 := by omega
  simp only [e] at key
  rw [aGet_put, if_pos rfl] at key
  unfold better at hbt
  have hlt : total m r.2 < (aGet m r.1).getD BIG := by
    cases q : aGet m r.1 with
    | some y => rw [q] at hbt; exact of_decide_eq_true hbt
    | none =>
      have h1 := total_le h hb
      have h2 := h.few
      have h3 := Nat.pow_le_pow_right (show 0 < 4 by decide) (show m.length + 1 ≤ 27 by omega)
      have h4 : (4 : Nat) ^ 27 < BIG := by unfold BIG; decide
      show total m r.2 < BIG
      omega
  unfold mu
  simp only [Option.getD_some] at key
  omega
/-- rules that a grammar may have -/
def RulesOk (rules : List Rule) : Prop := ∀ r ∈ rules, nam r.1 = true ∧ r.2.length ≤ 4 ∧ ∀ c ∈ r.2, (sgn c || nam c) = true
theorem llStep_ok {st : List (Nat × Nat) × Bool} (h : LLok st.1) {r : Rule} (hn : nam r.1 = true) (hb : r.2.length ≤ 4) : LLok (llStep st r).1 := by
  unfold llStep
  split
  · split
    · rename_i hbt; exact h.put hn hb hbt
    · exact h
  · exact h
/-- behind some steps: fewer is left, or nothing changed -/
theorem llFold {rules : List Rule} : ∀ (st : List (Nat × Nat) × Bool), (∀ r ∈ rules, nam r.1 = true ∧ r.2.length ≤ 4) → LLok st.1 →
    LLok (rules.foldl llStep st).1 ∧ mu (rules.foldl llStep st).1 ≤ mu st.1 ∧ (st.2 = false → (rules.foldl llStep st).2 = true → mu (rules.foldl llStep st).1 < mu st.1) ∧ ((rules.foldl llStep st).2 = false → (rules.foldl llStep st) = st) := by
  induction rules with
  | nil =>
    intro st _ h
    refine ⟨h, Nat.le_refl _, fun h1 h2 => ?_, fun _ => rfl⟩
    rw [List.foldl_nil, h1] at h2
    cases h2
  | cons r rest ih =>
    intro st hr h
    have hr0 := hr r List.mem_cons_self
    have h1 := llStep_ok h hr0.1 hr0.2
    obtain ⟨a1, a2, a3, a4⟩ := ih (llStep st r) (fun x hx => hr x (List.mem_cons_of_mem _ hx)) h1
    rw [List.foldl_cons]
    refine ⟨a1, ?_, ?_, ?_⟩
    · have : mu (llStep st r).1 ≤ mu st.1 := by
        unfold llStep
        split
        · split
          · rename_i hbt; exact Nat.le_of_lt (mu_put h hr0.1 hr0.2 hbt)
          · exact Nat.le_refl _
        · exact Nat.le_refl _
      omega
    · intro q1 q2
      by_cases hch : (llStep st r).2 = false
      · have := a3 hch q2
        have : mu (llStep st r).1 ≤ mu st.1 := by
          unfold llStep
          split
          · split
            · rename_i hbt; exact Nat.le_of_lt (mu_put h hr0.1 hr0.2 hbt)
            · exact Nat.le_refl _
          · exact Nat.le_refl _
        omega
      · have : mu (llStep st r).1 < mu st.1 := by
          unfold llStep at hch ⊢
          split
          · split
            · rename_i hbt; exact mu_put h hr0.1 hr0.2 hbt
            · rename_i x y; simp [x, y, q1] at hch
          · rename_i x; simp [x, q1] at hch
        omega
    · intro q
      have e := a4 q
      rw [e] at q
      rw [e]
      unfold llStep at q ⊢
      split
      · split
        · rename_i x y; simp [x, y] at q
        · rfl
      · rfl
end SF
namespace SF
/-! ### useful numbers -/
def letters : List Nat := (List.range 26).map (· + 65)
theorem letters_mem {c : Nat} : c ∈ letters ↔ nam c = true := by
  unfold letters
  rw [nam_iff, List.mem_map]
  constructor
  · rintro ⟨i, hi, rfl⟩
    have := List.mem_range.mp hi
    omega
  · intro h
    exact ⟨c - 65, List.mem_range.mpr (by omega), by omega⟩
/-- the names of a body, each once, ascending -/
def sortedNames (b : List Nat) : List Nat := letters.filter fun c => decide (c ∈ b)
theorem sortedNames_mem {b : List Nat} {c : Nat} : c ∈ sortedNames b ↔ c ∈ namesIn b := by
  unfold sortedNames namesIn
  rw [List.mem_filter, List.mem_filter, letters_mem, decide_eq_true_eq]
  exact And.comm
def uStep {α : Type} (lens : List (Nat × α)) (c : Nat) (re : List Nat) (r : Rule) : List Nat :=
  if r.1 = c ∧ allIn lens r.2 = true then re ++ (sortedNames r.2).filter fun x => decide (x ∉ re) else re
def ureach {α : Type} (rules : List Rule) (lens : List (Nat × α)) : Nat → List Nat → Nat → List Nat
  | 0, re, _ => re
  | n + 1, re, i => match re[i]? with
    | none => re
    | some c => ureach rules lens n (rules.foldl (uStep lens c) re) (i + 1)
theorem ureach_some {α : Type} {rules : List Rule} {lens : List (Nat × α)} {n i c : Nat} {re : List Nat} (h : re[i]? = some c) : ureach rules lens (n + 1) re i = ureach rules lens n (rules.foldl (uStep lens c) re) (i + 1) := by
  show (match re[i]? with | none => re | some c => ureach rules lens n (rules.foldl (uStep lens c) re) (i + 1)) = _
  rw [h]
theorem ureach_none {α : Type} {rules : List Rule} {lens : List (Nat × α)} {n i : Nat} {re : List Nat} (h : re[i]? = none) : ureach rules lens n re i = re := by
  cases n with
  | zero => rfl
  | succ n =>
    show (match re[i]? with | none => re | some c => ureach rules lens n (rules.foldl (uStep lens c) re) (i + 1)) = _
    rw [h]
def reached {α : Type} (rules : List Rule) (root : Nat) (lens : List (Nat × α)) : List Nat := ureach rules lens 27 [root] 0
def usefulAt {α : Type} (re : List Nat) (lens : List (Nat × α)) (r : Rule) : Bool := decide (r.1 ∈ re) && allIn lens r.2
def usefulNumbers {α : Type} (rules : List Rule) (root : Nat) (lens : List (Nat × α)) : List Nat :=
  (rules.zipIdx.filter fun p => usefulAt (reached rules root lens) lens p.1).map (·.2)
/-- distinct names -/
def NmOk (re : List Nat) : Prop := re.Nodup ∧ ∀ c ∈ re, nam c = true
theorem NmOk.few {re : List Nat} (h : NmOk re) : re.length ≤ 26 := nam_few h.1 h.2
theorem letters_asc : letters.Pairwise (· < ·) := by
  unfold letters
  rw [List.pairwise_map]
  exact (List.pairwise_lt_range (n := 26)).imp fun h => by omega
theorem sortedNames_asc (b : List Nat) : (sortedNames b).Pairwise (· < ·) := List.Pairwise.filter _ letters_asc
theorem sortedNames_nodup (b : List Nat) : (sortedNames b).Nodup := (sortedNames_asc b).imp fun h => Nat.ne_of_lt h
theorem uStep_ok {α : Type} {lens : List (Nat × α)} {c : Nat} {re : List Nat} {r : Rule} (h : NmOk re) : NmOk (uStep lens c re r) := by
  unfold uStep
  split
  · refine ⟨?_, fun x hx => ?_⟩
    · rw [List.nodup_append]
      refine ⟨h.1, List.Pairwise.filter _ (sortedNames_nodup r.2), fun a ha b hb e => ?_⟩
      have := (List.mem_filter.mp hb).2
      rw [decide_eq_true_eq] at this
      exact this (e ▸ ha)
    · rcases List.mem_append.mp hx with z | z
      · exact h.2 x z
      · have := (List.mem_filter.mp (List.mem_filter.mp z).1).1
        exact letters_mem.mp this
  · exact h
theorem uFold_ok {α : Type} {lens : List (Nat × α)} {c : Nat} : ∀ {rules : List Rule} {re : List Nat}, NmOk re → NmOk (rules.foldl (uStep lens c) re)
  | [], _, h => h
  | r :: rest, re, h => uFold_ok (rules := rest) (uStep_ok (r := r) h)
theorem uStep_pre {α : Type} {lens : List (Nat × α)} {c : Nat} {re : List Nat} {r : Rule} : re <+: uStep lens c re r := by
  unfold uStep
  split
  · exact List.prefix_append _ _
  · exact List.prefix_refl _
theorem uFold_pre {α : Type} {lens : List (Nat × α)} {c : Nat} : ∀ {rules : List Rule} {re : List Nat}, re <+: rules.foldl (uStep lens c) re
  | [], re => List.prefix_refl _
  | r :: rest, re => (uStep_pre (r := r)).trans (uFold_pre (rules := rest))
/-- two ascending lists without doubles and with the same members are one -/
theorem asc_eq : ∀ {l m : List Nat}, l.Pairwise (· < ·) → m.Pairwise (· < ·) → (∀ x, x ∈ l ↔ x ∈ m) → l = m
  | [], [], _, _, _ => rfl
  | [], b :: m, _, _, h => absurd ((h b).mpr List.mem_cons_self) (by simp)
  | a :: l, [], _, _, h => absurd ((h a).mp List.mem_cons_self) (by simp)
  | a :: l, b :: m, h1, h2, h => by
    rw [List.pairwise_cons] at h1 h2
    have hab : a = b := by
      rcases List.mem_cons.mp ((h a).mp List.mem_cons_self) with z | z
      · exact z
      · rcases List.mem_cons.mp ((h b).mpr List.mem_cons_self) with y | y
        · exact y.symm
        · have q1 := h2.1 a z
          have q2 := h1.1 b y
          omega
    subst hab
    rw [asc_eq h1.2 h2.2 fun x => ?_]
    constructor
    · intro hx
      rcases List.mem_cons.mp ((h x).mp (List.mem_cons_of_mem _ hx)) with z | z
      · subst z; exact absurd (h1.1 x hx) (Nat.lt_irrefl _)
      · exact z
    · intro hx
      rcases List.mem_cons.mp ((h x).mpr (List.mem_cons_of_mem _ hx)) with z | z
      · subst z; exact absurd (h2.1 x hx) (Nat.lt_irrefl _)
      · exact z
end SF
namespace SF
open PySem PySem.Spec PyProof.Rows L2
/-! ### texts as lists of code points -/
/-- the text of these code points -/
abbrev S (l : List Nat) : Str := ⟨l.toArray⟩
theorem S_len (l : List Nat) : (S l).length = l.length := by
  show l.toArray.size = _
  simp
theorem S_app (a b : List Nat) : (S a ++ S b : Str) = S (a ++ b) := by
  show (⟨a.toArray ++ b.toArray⟩ : Str) = ⟨(a ++ b).toArray⟩
  simp
theorem S_inj {a b : List Nat} : S a = S b ↔ a = b := by
  constructor
  · intro h
    have q := congrArg (fun z : Str => z.cps.toList) h
    simpa using q
  · intro h
    rw [h]
theorem S_cps (l : List Nat) : (S l).cps.toList = l := by simp
theorem S_of (z : Str) : S z.cps.toList = z := by
  cases z
  simp [S]
theorem S_cut (l : List Nat) (lo hi : Option Int) : cutS (S l) lo hi = S ((l.drop (HT.sIx l.length 0 lo)).take (HT.sIx l.length l.length hi - HT.sIx l.length 0 lo)) := by
  unfold cutS
  rw [S_len, S_cps]
/-! ### constants of the module -/
section
variable {X : Cx}
theorem pe_globs {x z : Str} {pos : Pos} (hg : Gl X x) (hm : ∃ t, X.mg x = some (.str z t)) (hd : (x == ("__debug__" : Str)) = false := by decide) : PE X (.Name x pos) (tC (.str z)) := by
  obtain ⟨t, hm⟩ := hm
  exact pe_glob hg hm ⟨t, rfl⟩ hd
theorem pe_globi {x : Str} {i : Int} {pos : Pos} (hg : Gl X x) (hm : ∃ t, X.mg x = some (.int i t)) (hd : (x == ("__debug__" : Str)) = false := by decide) : PE X (.Name x pos) (tC (.int i)) := by
  obtain ⟨t, hm⟩ := hm
  exact pe_glob hg hm ⟨t, rfl⟩ hd
end
/-! ### what is frozen within what is tracked: F ⊆ H, F never changes but grows -/
structure Ext (F H F' H' : Hp) : Prop where
  hh : Same H H'
  ff : Same F F'
  fh : Same F' H'
  nf : ∀ b, H b ≠ none → F b = none → F' b = none
theorem Ext.refl {F H : Hp} (s : Same F H) : Ext F H F H := ⟨Same.refl _, Same.refl _, s, fun _ _ h => h⟩
theorem Ext.trans {F H F1 H1 F2 H2 : Hp} (a : Ext F H F1 H1) (b : Ext F1 H1 F2 H2) : Ext F H F2 H2 :=
  ⟨a.hh.trans b.hh, a.ff.trans b.ff, b.fh, fun c hc hf => by
    refine b.nf c ?_ (a.nf c hc hf)
    cases q : H c with
    | none => exact absurd q hc
    | some o => rw [a.hh c o q]; simp⟩
/-- a new frozen object -/
theorem Ext.newF {F H F1 H1 : Hp} {p : Addr} {o : HO} (e : Ext F H F1 H1) (hp : H1 p = none) : Ext F H (upd F1 p o) (upd H1 p o) where
  hh := fun b u q => by rw [upd_ne (ne_of_none (e.hh b u q) hp)]; exact e.hh b u q
  ff := fun b u q => by rw [upd_ne (ne_of_none (e.fh b u (e.ff b u q)) hp)]; exact e.ff b u q
  fh := fun b u q => by
    by_cases hb : b = p
    · subst hb; rw [upd_same] at q ⊢; exact q
    · rw [upd_ne hb] at q ⊢; exact e.fh b u q
  nf := fun b hb hf => by
    have hbp : b ≠ p := by
      rintro rfl
      cases q : H b with
      | none => exact hb q
      | some u => rw [e.hh b u q] at hp; cases hp
    rw [upd_ne hbp]; exact e.nf b hb hf
/-- a new object that may change -/
theorem Ext.newM {F H F1 H1 : Hp} {p : Addr} {o : HO} (e : Ext F H F1 H1) (hp : H1 p = none) : Ext F H F1 (upd H1 p o) where
  hh := fun b u q => by rw [upd_ne (ne_of_none (e.hh b u q) hp)]; exact e.hh b u q
  ff := e.ff
  fh := fun b u q => by rw [upd_ne (ne_of_none (e.fh b u q) hp)]; exact e.fh b u q
  nf := e.nf
/-- a change of an object that is neither frozen nor elder -/
theorem Ext.set {F H F1 H1 : Hp} {p : Addr} {o : HO} (e : Ext F H F1 H1) (hp : H p = none) (hf : F1 p = none) : Ext F H F1 (upd H1 p o) where
  hh := fun b u q => by rw [upd_ne (ne_of_none q hp)]; exact e.hh b u q
  ff := e.ff
  fh := fun b u q => by rw [upd_ne (ne_of_none q hf)]; exact e.fh b u q
  nf := e.nf
/-- a new object is frozen -/
theorem Ext.frz {F H F1 H1 : Hp} {p : Addr} {o : HO} (e : Ext F H F1 H1) (hp : H p = none) (h1 : H1 p = some o) (hf : F1 p = none) : Ext F H (upd F1 p o) H1 where
  hh := e.hh
  ff := fun b u q => by rw [upd_ne (ne_of_none (e.ff b u q) hf)]; exact e.ff b u q
  fh := fun b u q => by
    by_cases hb : b = p
    · subst hb; rw [upd_same] at q; cases q; exact h1
    · rw [upd_ne hb] at q; exact e.fh b u q
  nf := fun b hb hfb => by
    have hbp : b ≠ p := by
      rintro rfl
      exact hb hp
    rw [upd_ne hbp]; exact e.nf b hb hfb
theorem Ext.free {F H F1 H1 : Hp} {p : Addr} (e : Ext F H F1 H1) (hp : H1 p = none) : H p = none := e.hh.free hp
theorem Ext.freeF {F H F1 H1 : Hp} {p : Addr} (e : Ext F H F1 H1) (hp : H1 p = none) : F1 p = none := e.fh.free hp
theorem Ext.sm {F H F1 H1 : Hp} (e : Ext F H F1 H1) : Same F H1 := e.ff.trans e.fh
theorem same_newF {F H : Hp} {p : Addr} {o : HO} (s : Same F H) (hp : H p = none) : Same F (upd F p o) := fun b u q => by rw [upd_ne (ne_of_none (s b u q) hp)]; exact q
/-! ### relations: which value bears which datum, over the frozen part -/
abbrev Rl (α : Type) := Hp → V → α → Prop
class Mono {α : Type} (r : Rl α) : Prop where
  mono : ∀ {F F' : Hp} {v : V} {x : α}, Same F F' → r F v x → r F' v x
def rI : Rl Int := fun _ v x => v = .int x
def rS : Rl (List Nat) := fun _ v x => v = .str (S x)
def rB : Rl Bool := fun _ v x => v = .bl x
def rO {α : Type} (r : Rl α) : Rl (Option α) := fun F v x => match x with
  | none => v = .non
  | some y => r F v y
abbrev Al {α : Type} (r : Rl α) (F : Hp) : List V → List α → Prop := Paired (fun v x => r F v x)
def rL {α : Type} (r : Rl α) : Rl (List α) := fun F v xs => ∃ a vs, v = .ref a ∧ F a = some (.lst vs) ∧ Al r F vs xs
def rP {α β : Type} (r : Rl α) (s : Rl β) : Rl (α × β) := fun F v x => ∃ a u w, v = .ref a ∧ F a = some (.tup [u, w]) ∧ r F u x.1 ∧ s F w x.2
def rT {α β γ : Type} (r : Rl α) (s : Rl β) (t : Rl γ) : Rl (Tri α β γ) := fun F v x => ∃ a u w z, v = .ref a ∧ F a = some (.tup [u, w, z]) ∧ r F u x.a ∧ s F w x.b ∧ t F z x.c
instance : Mono rI := ⟨fun _ h => h⟩
instance : Mono rS := ⟨fun _ h => h⟩
instance : Mono rB := ⟨fun _ h => h⟩
instance {α : Type} {r : Rl α} [Mono r] : Mono (rO r) := ⟨fun {F F' v x} s h => by
  cases x with
  | none => exact h
  | some y => exact Mono.mono (r := r) s h⟩
theorem Al.mono {α : Type} {r : Rl α} [Mono r] {F F' : Hp} (s : Same F F') : ∀ {vs : List V} {xs : List α}, Al r F vs xs → Al r F' vs xs
  | _, _, .nil => .nil
  | _, _, .cons h t => .cons (Mono.mono s h) (Al.mono s t)
instance {α : Type} {r : Rl α} [Mono r] : Mono (rL r) := ⟨fun s h => by
  obtain ⟨a, vs, e, h1, h2⟩ := h
  exact ⟨a, vs, e, s _ _ h1, Al.mono s h2⟩⟩
instance {α β : Type} {r : Rl α} {t : Rl β} [Mono r] [Mono t] : Mono (rP r t) := ⟨fun s h => by
  obtain ⟨a, u, w, e, h1, h2, h3⟩ := h
  exact ⟨a, u, w, e, s _ _ h1, Mono.mono s h2, Mono.mono s h3⟩⟩
instance {α β γ : Type} {r : Rl α} {t : Rl β} {q : Rl γ} [Mono r] [Mono t] [Mono q] : Mono (rT r t q) := ⟨fun s h => by
  obtain ⟨a, u, w, z, e, h1, h2, h3, h4⟩ := h
  exact ⟨a, u, w, z, e, s _ _ h1, Mono.mono s h2, Mono.mono s h3, Mono.mono s h4⟩⟩
theorem Al.len {α : Type} {r : Rl α} {F : Hp} {vs : List V} {xs : List α} (h : Al r F vs xs) : vs.length = xs.length := Paired.length h
theorem Al.get {α : Type} {r : Rl α} {F : Hp} : ∀ {vs : List V} {xs : List α} {i : Nat} {v : V}, Al r F vs xs → vs[i]? = some v → ∃ x, xs[i]? = some x ∧ r F v x
  | _, _, i, _, .nil, e => by simp at e
  | _, _, 0, _, .cons h _, e => by simp at e; subst e; exact ⟨_, rfl, h⟩
  | _, _, i + 1, _, .cons _ t, e => by
    obtain ⟨x, h1, h2⟩ := Al.get (i := i) t (by simpa using e)
    exact ⟨x, by simpa using h1, h2⟩
theorem Al.get' {α : Type} {r : Rl α} {F : Hp} : ∀ {vs : List V} {xs : List α} {i : Nat} {x : α}, Al r F vs xs → xs[i]? = some x → ∃ v, vs[i]? = some v ∧ r F v x
  | _, _, i, _, .nil, e => by simp at e
  | _, _, 0, _, .cons h _, e => by simp at e; subst e; exact ⟨_, rfl, h⟩
  | _, _, i + 1, _, .cons _ t, e => by
    obtain ⟨x, h1, h2⟩ := Al.get' (i := i) t (by simpa using e)
    exact ⟨x, by simpa using h1, h2⟩
theorem Al.app {α : Type} {r : Rl α} {F : Hp} : ∀ {vs ws : List V} {xs ys : List α}, Al r F vs xs → Al r F ws ys → Al r F (vs ++ ws) (xs ++ ys)
  | _, _, _, _, .nil, s => s
  | _, _, _, _, .cons h t, s => .cons h (Al.app t s)
theorem Al.snoc {α : Type} {r : Rl α} {F : Hp} {vs : List V} {xs : List α} {v : V} {x : α} (h : Al r F vs xs) (q : r F v x) : Al r F (vs ++ [v]) (xs ++ [x]) := h.app (.cons q .nil)
theorem Al.ints {F : Hp} : ∀ {vs : List V} {xs : List Int}, Al rI F vs xs → vs = xs.map V.int
  | _, _, .nil => rfl
  | _, _, .cons h t => by rw [Al.ints t, show _ = _ from h]; rfl
theorem Al.of_ints {F : Hp} : ∀ (xs : List Int), Al rI F (xs.map V.int) xs
  | [] => .nil
  | _ :: r => .cons rfl (Al.of_ints r)
theorem Al.strs {F : Hp} : ∀ {vs : List V} {xs : List (List Nat)}, Al rS F vs xs → vs = xs.map fun l => V.str (S l)
  | _, _, .nil => rfl
  | _, _, .cons h t => by rw [Al.strs t, show _ = _ from h]; rfl
theorem Al.of_strs {F : Hp} : ∀ (xs : List (List Nat)), Al rS F (xs.map fun l => V.str (S l)) xs
  | [] => .nil
  | _ :: r => .cons rfl (Al.of_strs r)
theorem Al.bls {F : Hp} : ∀ {vs : List V} {xs : List Bool}, Al rB F vs xs → vs = xs.map V.bl
  | _, _, .nil => rfl
  | _, _, .cons h t => by rw [Al.bls t, show _ = _ from h]; rfl
theorem Al.of_bls {F : Hp} : ∀ (xs : List Bool), Al rB F (xs.map V.bl) xs
  | [] => .nil
  | _ :: r => .cons rfl (Al.of_bls r)
theorem take_more {α : Type} : ∀ {l : List α} {i : Nat} {x : α}, l[i]? = some x → l.take (i + 1) = l.take i ++ [x]
  | [], i, x, h => by simp at h
  | a :: l, 0, x, h => by
    have e : a = x := Option.some.inj h
    subst e
    rfl
  | a :: l, i + 1, x, h => by
    have ih := take_more (l := l) (i := i) (x := x) h
    show a :: l.take (i + 1) = a :: l.take i ++ [x]
    rw [ih]
    rfl
theorem sl64 : sizeLine = 16777216 := sizeLine_eq
/-! ### promises of defs without side effects: from data to a datum -/
def Pu1 {α β : Type} (ra : Rl α) (pre : α → Prop) (rb : Rl β) (f : α → β) : Sp := fun vs H Q _ => ∃ F v0 x, vs = [v0] ∧ Same F H ∧ ra F v0 x ∧ pre x ∧ ∀ v F' H', Ext F H F' H' → rb F' v (f x) → Q v H'
def Pu2 {α α2 β : Type} (ra : Rl α) (ra2 : Rl α2) (pre : α → α2 → Prop) (rb : Rl β) (f : α → α2 → β) : Sp := fun vs H Q _ =>
  ∃ F v0 v1 x y, vs = [v0, v1] ∧ Same F H ∧ ra F v0 x ∧ ra2 F v1 y ∧ pre x y ∧ ∀ v F' H', Ext F H F' H' → rb F' v (f x y) → Q v H'
def Pu3 {α α2 α3 β : Type} (ra : Rl α) (ra2 : Rl α2) (ra3 : Rl α3) (pre : α → α2 → α3 → Prop) (rb : Rl β) (f : α → α2 → α3 → β) : Sp := fun vs H Q _ =>
  ∃ F v0 v1 v2 x y z, vs = [v0, v1, v2] ∧ Same F H ∧ ra F v0 x ∧ ra2 F v1 y ∧ ra3 F v2 z ∧ pre x y z ∧ ∀ v F' H', Ext F H F' H' → rb F' v (f x y z) → Q v H'
theorem S_get {l : List Nat} {i : Nat} {c : Nat} (h : (S l).cps[i]? = some c) : l[i]? = some c := by simpa using h
theorem S_size (l : List Nat) : (S l).cps.size = l.length := by simp
theorem map_more {α β : Type} {f : α → β} {l : List α} {i : Nat} {x : α} (h : l[i]? = some x) : (l.take (i + 1)).map f = (l.take i).map f ++ [f x] := by rw [take_more h, List.map_append]; rfl
theorem filter_yes {α : Type} {p : α → Bool} {l : List α} {i : Nat} {x : α} (h : l[i]? = some x) (q : p x = true) : (l.take (i + 1)).filter p = (l.take i).filter p ++ [x] := by rw [take_more h, List.filter_append]; simp [q]
theorem filter_no {α : Type} {p : α → Bool} {l : List α} {i : Nat} {x : α} (h : l[i]? = some x) (q : p x = false) : (l.take (i + 1)).filter p = (l.take i).filter p := by rw [take_more h, List.filter_append]; simp [q]
/-! ### comprehensions: the new list at D holds what is made so far -/
def LcI {β : Type} (r : Rl β) (F H1 : Hp) (D : Addr) (out : Nat → List β) : Nat → Hp → Prop := fun i H => ∃ F' ws, Ext F H1 F' H ∧ F' D = none ∧ H D = some (.lst ws) ∧ Al r F' ws (out i)
theorem LcI.start {β : Type} {r : Rl β} {F H1 : Hp} {D : Addr} {out : Nat → List β} (s : Same F H1) (hD : H1 D = none) (h0 : out 0 = []) : LcI r F H1 D out 0 (upd H1 D (.lst [])) :=
  ⟨F, [], (Ext.refl s).newM hD, s.free hD, upd_same, by rw [h0]; exact .nil⟩
theorem LcI.yes {β : Type} {r : Rl β} [Mono r] {F H1 F' H' F4 H4 : Hp} {D : Addr} {out : Nat → List β} {i : Nat} {ws : List V} {y : V} (d : β) (hD1 : H1 D = none) (e : Ext F H1 F' H') (fD : F' D = none) (hD : H' D = some (.lst ws)) (al : Al r F' ws (out i))
    (e4 : Ext F' H' F4 H4) (q : r F4 y d) (ho : out (i + 1) = out i ++ [d]) (hz : (out i).length < sizeLine) : ∃ acc, H4 D = some (.lst acc) ∧ acc.length < sizeLine ∧ LcI r F H1 D out (i + 1) (upd H4 D (.lst (acc ++ [y]))) := by
  have f4 : F4 D = none := e4.nf D (by rw [hD]; simp) fD
  refine ⟨ws, e4.hh _ _ hD, by rw [al.len]; exact hz, F4, ws ++ [y], (e.trans e4).set hD1 f4, f4, upd_same, ?_⟩
  rw [ho]
  exact (al.mono e4.ff).snoc q
theorem LcI.no {β : Type} {r : Rl β} [Mono r] {F H1 F' H' F4 H4 : Hp} {D : Addr} {out : Nat → List β} {i : Nat} {ws : List V} (e : Ext F H1 F' H') (fD : F' D = none) (hD : H' D = some (.lst ws)) (al : Al r F' ws (out i))
    (e4 : Ext F' H' F4 H4) (ho : out (i + 1) = out i) : LcI r F H1 D out (i + 1) H4 :=
  ⟨F4, ws, e.trans e4, e4.nf D (by rw [hD]; simp) fD, e4.hh _ _ hD, by rw [ho]; exact al.mono e4.ff⟩
/-- the made list, frozen -/
theorem LcI.frz {β : Type} {r : Rl β} [Mono r] {F H1 H' : Hp} {D : Addr} {out : Nat → List β} {n : Nat} (h : LcI r F H1 D out n H') (hD1 : H1 D = none) : ∃ F' vs, Ext F H1 F' H' ∧ F' D = some (.lst vs) ∧ Al r F' vs (out n) := by
  obtain ⟨F', ws, e, fD, hD, al⟩ := h
  exact ⟨_, ws, e.frz hD1 hD fD, upd_same, al.mono (fun b u q => by rw [upd_ne (ne_of_none q fD)]; exact q)⟩
/-! ### dicts -/
section
variable {κ κ' α : Type} [DecidableEq κ] [DecidableEq κ']
def AD (enc : κ → κ') (r : Rl α) (F : Hp) : List (κ' × V) → List (κ × α) → Prop := Paired fun kv x => kv.1 = enc x.1 ∧ r F kv.2 x.2
theorem AD.mono {enc : κ → κ'} {r : Rl α} [Mono r] {F F' : Hp} (s : Same F F') : ∀ {kvs : List (κ' × V)} {m : List (κ × α)}, AD enc r F kvs m → AD enc r F' kvs m
  | _, _, .nil => .nil
  | _, _, .cons h t => .cons ⟨h.1, Mono.mono s h.2⟩ (AD.mono s t)
theorem AD.len {enc : κ → κ'} {r : Rl α} {F : Hp} {kvs : List (κ' × V)} {m : List (κ × α)} (h : AD enc r F kvs m) : kvs.length = m.length := Paired.length h
theorem AD.get {enc : κ → κ'} (inj : ∀ a b, enc a = enc b → a = b) {r : Rl α} {F : Hp} (k : κ) : ∀ {kvs : List (κ' × V)} {m : List (κ × α)}, AD enc r F kvs m →
    (aGet m k = none ∧ valV kvs (enc k) = none) ∨ ∃ x v, aGet m k = some x ∧ valV kvs (enc k) = some v ∧ r F v x
  | _, _, .nil => .inl ⟨rfl, rfl⟩
  | _, _, .cons (a := kv) (b := x) h t => by
    rw [aGet_cons]
    by_cases e : x.1 = k
    · rw [if_pos e]
      exact .inr ⟨x.2, kv.2, rfl, valV_pos (by rw [h.1, e]), h.2⟩
    · rw [if_neg e, valV_neg (fun z => e (inj _ _ (h.1.symm.trans z)))]
      exact AD.get inj k t
theorem AD.put {enc : κ → κ'} (inj : ∀ a b, enc a = enc b → a = b) {r : Rl α} {F : Hp} {k : κ} {v : V} {x : α} (q : r F v x) {kvs : List (κ' × V)} {m : List (κ × α)} (h : AD enc r F kvs m) : AD enc r F (putK kvs (enc k) v) (aPut m k x) := by
  unfold putK aPut
  have e : (kvs.any fun kv => decide (kv.1 = enc k)) = m.any fun p => decide (p.1 = k) := by
    rw [valV_any, aGet_any]
    rcases AD.get inj k h with ⟨h1, h2⟩ | ⟨y, u, h1, h2, _⟩
    · rw [h1, h2]; rfl
    · rw [h1, h2]; rfl
  rw [e]
  split
  · have key : ∀ {kvs : List (κ' × V)} {m : List (κ × α)}, AD enc r F kvs m → AD enc r F (kvs.map fun kv => if kv.1 = enc k then (kv.1, v) else kv) (m.map fun p => if p.1 = k then (p.1, x) else p) := by
      intro kvs m h
      induction h with
      | nil => exact .nil
      | cons h t ih =>
        refine .cons ?_ ih
        rename_i kv y _ _
        dsimp only
        by_cases z : y.1 = k
        · rw [if_pos z, if_pos (by rw [h.1, z])]
          exact ⟨h.1, q⟩
        · rw [if_neg z, if_neg (fun w => z (inj _ _ (h.1.symm.trans w)))]
          exact h
    exact key h
  · have key : ∀ {kvs : List (κ' × V)} {m : List (κ × α)}, AD enc r F kvs m → AD enc r F (kvs ++ [(enc k, v)]) (m ++ [(k, x)]) := by
      intro kvs m h
      induction h with
      | nil => exact .cons ⟨rfl, q⟩ .nil
      | cons h t ih => exact .cons h ih
    exact key h
end
def encN (c : Nat) : Key := Sum.inr (S [c])
theorem encN_inj (a b : Nat) (h : encN a = encN b) : a = b := by
  have := S_inj.mp (Sum.inr.inj h)
  simpa using this
def rNat : Rl Nat := fun _ v x => v = .int (x : Int)
/-- a name: a text of one letter -/
def rC : Rl Nat := fun _ v c => v = .str (S [c])
instance : Mono rNat := ⟨fun _ h => h⟩
instance : Mono rC := ⟨fun _ h => h⟩
def rD {κ α : Type} [DecidableEq κ] (enc : κ → Key) (r : Rl α) : Rl (List (κ × α)) := fun F v m => ∃ a kvs, v = .ref a ∧ F a = some (.dK kvs) ∧ AD enc r F kvs m
instance {κ α : Type} [DecidableEq κ] {enc : κ → Key} {r : Rl α} [Mono r] : Mono (rD enc r) := ⟨fun s h => by
  obtain ⟨a, kvs, e, h1, h2⟩ := h
  exact ⟨a, kvs, e, s _ _ h1, h2.mono s⟩⟩
abbrev rRule : Rl Rule := rP rC rS
theorem Al.nats {F : Hp} : ∀ {vs : List V} {xs : List Nat}, Al rNat F vs xs → vs = (xs.map fun (x : Nat) => (x : Int)).map V.int
  | _, _, .nil => rfl
  | _, _, .cons h t => by rw [Al.nats t, show _ = _ from h]; rfl
theorem Al.cs {F : Hp} : ∀ {vs : List V} {xs : List Nat}, Al rC F vs xs → vs = xs.map fun c => V.str (S [c])
  | _, _, .nil => rfl
  | _, _, .cons h t => by rw [Al.cs t, show _ = _ from h]; rfl
theorem foldl_more {α β : Type} {f : β → α → β} {b : β} {l : List α} {i : Nat} {x : α} (h : l[i]? = some x) : (l.take (i + 1)).foldl f b = f ((l.take i).foldl f b) x := by rw [take_more h, List.foldl_append]; rfl
theorem inV_non : ∀ {vs : List V}, (∀ v ∈ vs, v = .non ∨ ∃ i, v = .int i) → vs.all flatV = true ∧ inV .non vs = vs.any (fun v => decide (v = .non))
  | [], _ => ⟨rfl, rfl⟩
  | v :: r, h => by
    obtain ⟨h1, h2⟩ := inV_non (vs := r) fun x hx => h x (List.mem_cons_of_mem _ hx)
    unfold inV at h2 ⊢
    rw [List.all_cons, List.any_cons, List.any_cons, h1, h2]
    rcases h v List.mem_cons_self with rfl | ⟨i, rfl⟩
    · exact ⟨rfl, rfl⟩
    · exact ⟨rfl, rfl⟩
/-- a rule of a list of rules -/
theorem rule_at {F : Hp} {vs : List V} {rules : List Rule} {i : Nat} {v : V} (al : Al rRule F vs rules) (h : vs[i]? = some v) :
    ∃ r t, rules[i]? = some r ∧ v = .ref t ∧ F t = some (.tup [.str (S [r.1]), .str (S r.2)]) := by
  obtain ⟨r, hr, t, u, w, e1, e2, e3, e4⟩ := al.get h
  rw [show u = _ from e3, show w = _ from e4] at e2
  exact ⟨r, t, hr, e1, e2⟩
theorem Al.opts {F : Hp} : ∀ {vs : List V} {os : List (Option Nat)}, Al (rO rNat) F vs os →
    vs.all flatV = true ∧ inV .non vs = !(os.all fun o => o.isSome) ∧ ((os.all fun o => o.isSome) = true → vs = (os.map fun o => ((o.getD 0 : Nat) : Int)).map V.int)
  | _, _, .nil => ⟨rfl, rfl, fun _ => rfl⟩
  | _, _, .cons (b := o) h t => by
    obtain ⟨h1, h2, h3⟩ := Al.opts t
    unfold inV at h2 ⊢
    rw [List.all_cons, List.any_cons, List.all_cons, h1, h2]
    cases o with
    | none =>
      have e : _ = V.non := h
      subst e
      exact ⟨rfl, rfl, fun z => by simp at z⟩
    | some x =>
      have e : _ = V.int (x : Int) := h
      subst e
      refine ⟨rfl, by simp [eqV], fun z => ?_⟩
      rw [List.map_cons, List.map_cons, ← h3 (by simpa using z)]
      rfl
theorem sum_ints : ∀ l : List Nat, (l.map fun (x : Nat) => (x : Int)).sum = ((l.sum : Nat) : Int)
  | [] => rfl
  | a :: l => by rw [List.map_cons, List.sum_cons, List.sum_cons, sum_ints l]; omega
theorem dec_ii {i j : Int} : decide (V.int i = V.int j) = decide (i = j) := by
  by_cases h : i = j
  · rw [decide_eq_true h, h]; simp
  · rw [decide_eq_false h]; simp [h]
theorem dec_ss {a b : List Nat} : decide (V.str (S a) = V.str (S b)) = decide (a = b) := by
  by_cases h : a = b
  · subst h; simp
  · rw [decide_eq_false h, decide_eq_false]
    intro e
    injection e with e
    exact h (S_inj.mp e)
theorem dec_cc {a b : Nat} : decide (V.str (S [a]) = V.str (S [b])) = decide (a = b) := by
  rw [dec_ss]
  by_cases h : a = b
  · subst h; simp
  · simp [h]
abbrev vc (c : Nat) : V := .str (S [c])
abbrev vn (n : Nat) : V := .int (n : Int)
theorem inV_cs (c : Nat) : ∀ l : List Nat, (l.map vc).all flatV = true ∧ inV (vc c) (l.map vc) = decide (c ∈ l)
  | [] => ⟨rfl, rfl⟩
  | x :: l => by
    obtain ⟨h1, h2⟩ := inV_cs c l
    unfold inV at h2 ⊢
    rw [List.map_cons, List.all_cons, List.any_cons, h1, h2]
    refine ⟨rfl, ?_⟩
    have e : eqV (vc x) (vc c) = decide (x = c) := by
      show (S [x] == S [c]) = _
      by_cases h : x = c
      · subst h; simp
      · rw [decide_eq_false h, beq_eq_false_iff_ne]
        intro e
        exact h (by simpa using S_inj.mp e)
    rw [e]
    by_cases h : x = c
    · subst h; simp
    · have h' : ¬ c = x := fun z => h z.symm
      simp [h, h']
theorem map_get {α : Type} {f : α → V} {l : List α} {i : Nat} {v : V} (h : (l.map f)[i]? = some v) : ∃ x, l[i]? = some x ∧ v = f x := by
  rw [List.getElem?_map] at h
  cases q : l[i]? with
  | none => rw [q] at h; cases h
  | some x => rw [q] at h; exact ⟨x, rfl, (Option.some.inj h).symm⟩
theorem map_get' {α : Type} {f : α → V} {l : List α} {i : Nat} {x : α} (h : l[i]? = some x) : (l.map f)[i]? = some (f x) := by rw [List.getElem?_map, h]; rfl
/-! ### the rules with the written part by its own name -/
section
variable {X : Cx} {K : PySem.W.Frag}
theorem ix_listK (h : X.K = K := by rfl) : IxR X (rIxL K) := by subst h; exact ix_list
theorem ix_tupK (h : X.K = K := by rfl) : IxR X (rIxT K) := by subst h; exact ix_tup
theorem sl_listK (h : X.K = K := by rfl) : SlR X (rSlL K) := by subst h; exact sl_list
theorem sl_tupK (h : X.K = K := by rfl) : SlR X (rSlT K) := by subst h; exact sl_tup
theorem op_ltTK (hu : X.A.units < cLine) (h : X.K = K := by rfl) : OpR X (compareOp .Lt) (rLtT K) := by subst h; exact op_ltT hu
theorem op_catTK (h : X.K = K := by rfl) : OpR X (binaryOp .Add) (rCatT K) := by subst h; exact op_catT
theorem op_inK (h : X.K = K := by rfl) : OpR X (compareOp .In) (rIn K false) := by subst h; exact op_in_seq
theorem op_notInK (h : X.K = K := by rfl) : OpR X (compareOp .NotIn) (rIn K true) := by subst h; exact op_notIn_seq
def rLen (K : PySem.W.Frag) : List V → Hp → VK → Prop := fun xs H Q => ∃ p ys, xs = [.ref p] ∧ (SqL K H p ys ∨ SqT K H p ys) ∧ Q (.int ys.length) H
theorem call_lenK (h : X.K = K := by rfl) : CallR X (.builtin "len") (rLen K) := by subst h; exact call_len_seq
def rListOf (K : PySem.W.Frag) : List V → Hp → VK → Prop := fun xs H Q => ∃ p ys, xs = [.ref p] ∧ (SqL K H p ys ∨ SqT K H p ys) ∧ ∀ l, H l = none → Q (.ref l) (upd H l (.lst ys))
theorem call_listK (h : X.K = K := by rfl) : CallR X (.type "list") (rListOf K) := by subst h; exact call_list_of
theorem cr_sumK (hc : X.calm = true) (h : X.K = K := by rfl) : CallR X (.builtin "sum") (rSum K) := by subst h; exact cr_sum hc
theorem cr_maxK (hc : X.calm = true) (h : X.K = K := by rfl) : CallR X (.builtin "max") (rMax K) := by subst h; exact cr_max hc
theorem cr_minK (hc : X.calm = true) (h : X.K = K := by rfl) : CallR X (.builtin "min") (rMin K) := by subst h; exact cr_min hc
theorem cr_allK (hc : X.calm = true) (h : X.K = K := by rfl) : CallR X (.builtin "all") (rAll K) := by subst h; exact cr_all hc
theorem cr_anyK (hc : X.calm = true) (h : X.K = K := by rfl) : CallR X (.builtin "any") (rAny K) := by subst h; exact cr_any hc
theorem cr_sortedSK (h : X.K = K := by rfl) : CallR X (.builtin "sorted") (rSortedS K) := by subst h; exact cr_sortedS
theorem op_eqDK (hu : X.A.units + 64 < cLine) (h : X.K = K := by rfl) : OpR X (compareOp .Eq) (rEqD K) := by subst h; exact op_eqD hu
theorem op_neDK (hu : X.A.units + 64 < cLine) (h : X.K = K := by rfl) : OpR X (compareOp .NotEq) (rNeD K) := by subst h; exact op_neD hu
theorem pi_listK {tg l : Expr} {tl : TE} (hl : PE X l tl) (h : X.K = K := by rfl) : PI X tg l (iList K tl) := by subst h; exact pi_list hl
theorem pi_tupK {tg l : Expr} {tl : TE} (hl : PE X l tl) (h : X.K = K := by rfl) : PI X tg l (iTup K tl) := by subst h; exact pi_tup hl
theorem pi_enumK {e : Expr} {ta : TA} {p pos tpos : Pos} {elts : List Expr} {kk : Nat} (hg : Gl X "enumerate") (hm : X.mg "enumerate" = none) (ha : PA X [e] ta) (hs : starEach [e] X.env = [(false, eval e X.env)] := by rfl) (h : X.K = K := by rfl) :
    PI X (.Tuple elts kk tpos) (.Call (.Name "enumerate" p) [e] [] pos) (iEnum K ta) := by subst h; exact pi_enum hg hm ha hs
theorem pg_tupK {es : List Expr} {k : Nat} {t : TGs} {n : Nat} {pos : Pos} (hc : X.calm = true) (ht : PGs X es t) (hn : (assignEach es X.env).length = n := by rfl) (hst : (assignEach es X.env).findIdx? (·.1) = none := by rfl) (h : X.K = K := by rfl) :
    PG X (.Tuple es k pos) (gTup K n t) := by subst h; exact pg_tup hc ht hn hst
theorem pe_fldK {e : Expr} {ta : TE} {f : Str} {pos : Pos} (he : PE X e ta) (hb : attributeBase e f X.env (eval e X.env) = eval e X.env := by rfl) (h : X.K = K := by rfl) : PE X (.Attribute e f pos) (tFld K ta f) := by subst h; exact pe_fld he hb
theorem pe_conK {e : Expr} {ta : TE} {f : Str} {pos : Pos} (he : PE X e ta) (hb : attributeBase e f X.env (eval e X.env) = eval e X.env := by rfl) (h : X.K = K := by rfl) : PE X (.Attribute e f pos) (tCon K ta f) := by subst h; exact pe_con he hb
theorem ps_fldK {o value : Expr} {f : Str} {pos pos' : Pos} {ta tv : TE} (ha : PE X o ta) (hv : PE X value tv) (hs : swapsWith value (some (.Attribute o f pos')) pos.line X.env = pure false := by rfl) (h : X.K = K := by rfl) :
    PS X (.Assign [.Attribute o f pos'] value pos) (sFld K ta tv f) := by subst h; exact ps_fld ha hv hs
theorem pe_revLK {e : Expr} {te : TE} {k : Nat} {p1 p2 p3 pos : Pos} (he : PE X e te) (h : X.K = K := by rfl) : PE X (.Subscript e (.Slice none none (some (.UnaryOp .USub (.Constant (.int 1) k p1) p2)) p3) pos) (tRevL K te) := by subst h; exact pe_revL he
theorem pe_bmK {o e : Expr} {es : List Expr} {to : TE} {t : TA} {name : Str} {apos cpos : Pos} {T id : String} {r : V → List V → Hp → VK → Prop}
    (pa : PlainAttrs T) (slot : Slot T name id) (hty : typeOf (.builtin id) = pure (.type "method_descriptor")) (hm : MtR X id r) (ho : PE X o to) (ha : PA X (e :: es) t)
    (hbase : attributeBase o name X.env (eval o X.env) = eval o X.env := by rfl) (hline : (apos.endLine == cpos.line) = true := by rfl) (hs : starEach (e :: es) X.env = (false, eval e X.env) :: starEach es X.env := by rfl) (hplain : (backTo cpos (starEach es X.env)).any (·.1) = false := by rfl)
    (hfew : ((backTo cpos (starEach (e :: es) X.env)).all (fun x => !x.1) && (backToKw cpos (keywordEach [] X.env)).all (fun x => x.1.isSome)
      && decide ((e :: es).length + ([] : List Keyword).length + (if ([] : List Keyword).isEmpty then 0 else 1) < 30)) = true := by rfl) (h : X.K = K := by rfl) :
    PE X (.Call (.Attribute o name apos) (e :: es) [] cpos) (tBM K T r to t) := by subst h; exact pe_bm pa slot hty hm ho ha hbase hfew hline hs hplain
def rJoin (K : PySem.W.Frag) : V → List V → Hp → VK → Prop := fun x xs H Q => ∃ a p, ∃ ys : List Str, x = .str a ∧ xs = [.ref p] ∧ (SqL K H p (ys.map V.str) ∨ SqT K H p (ys.map V.str)) ∧
      (ys.map (·.length)).sum + ys.length * a.length ≤ 16777216 ∧ Q (.str (Txt.join a ys)) H
theorem pe_joinK {o e : Expr} {to te : TE} {apos pos : Pos} (ho : PE X o to) (he : PE X e te) (hs : starEach [e] X.env = [(false, eval e X.env)] := by rfl) (hbase : attributeBase o "join" X.env (eval o X.env) = eval o X.env := by rfl) (hline : (apos.endLine == pos.line) = true := by rfl) (h : X.K = K := by rfl) :
    PE X (.Call (.Attribute o "join" apos) [e] [] pos) (tM1 (rJoin K) to te) := by subst h; exact pe_join ho he hs hbase hline
theorem pe_bm0K {o : Expr} {to : TE} {name : Str} {apos cpos : Pos} {T id : String} {r : V → List V → Hp → VK → Prop}
    (pa : PlainAttrs T) (slot : Slot T name id) (hty : typeOf (.builtin id) = pure (.type "method_descriptor")) (hm : MtR X id r) (ho : PE X o to)
    (hbase : attributeBase o name X.env (eval o X.env) = eval o X.env := by rfl) (hline : (apos.endLine == cpos.line) = true := by rfl) (h : X.K = K := by rfl) : PE X (.Call (.Attribute o name apos) [] [] cpos) (tBM0 K T r to) := by subst h; exact pe_bm0 pa slot hty hm ho hbase hline
end
end SF
namespace SF
abbrev Best := List (Nat × Tri Nat (List Nat) Nat)
def bS (best : Best) (c : Nat) : Nat := ((aGet best c).map (·.a)).getD 0
def bW (best : Best) (c : Nat) : List Nat := ((aGet best c).map (·.b)).getD []
def ldSteps (best : Best) (b : List Nat) : Nat := 1 + ((namesIn b).map (bS best)).sum
def ldPart (best : Best) (c : Nat) : List Nat := if nam c = true then bW best c else [c]
def ldWord (best : Best) (b : List Nat) : List Nat := (b.map (ldPart best)).flatten
def ldDue (lens : List (Nat × Nat)) (best : Best) (r : Rule) : Bool := decide (total lens r.2 = (aGet lens r.1).getD 0) && allIn best r.2
/-- (steps, word) < (steps, word) -/
def swL (i : Nat) (a : List Nat) (j : Nat) (b : List Nat) : Bool := if i = j then decide (a < b) else decide (i < j)
def ldBetter (best : Best) (r : Rule) : Bool := match aGet best r.1 with
  | none => true
  | some t => swL (ldSteps best r.2) (ldWord best r.2) t.a t.b
def ldStep (rules : List Rule) (lens : List (Nat × Nat)) (st : Best × Bool) (n : Nat) : Best × Bool := match rules[n]? with
  | none => st
  | some r => if ldDue lens st.1 r = true then (if ldBetter st.1 r = true then (aPut st.1 r.1 ⟨ldSteps st.1 r.2, ldWord st.1 r.2, n⟩, true) else st) else st
section
variable {rules : List Rule} {lens : List (Nat × Nat)} {st : Best × Bool} {n : Nat} {r : Rule}
theorem ldStep_no (hr : rules[n]? = some r) (h : ldDue lens st.1 r = false) : ldStep rules lens st n = st := by
  unfold ldStep
  rw [hr]
  dsimp only
  rw [h, if_neg Bool.false_ne_true]
theorem ldStep_no2 (hr : rules[n]? = some r) (h : ldBetter st.1 r = false) : ldStep rules lens st n = st := by
  unfold ldStep
  rw [hr]
  dsimp only
  rw [h, if_neg Bool.false_ne_true]
  split <;> rfl
theorem ldStep_yes (hr : rules[n]? = some r) (h : ldDue lens st.1 r = true) (h2 : ldBetter st.1 r = true) : ldStep rules lens st n = (aPut st.1 r.1 ⟨ldSteps st.1 r.2, ldWord st.1 r.2, n⟩, true) := by
  unfold ldStep
  rw [hr]
  dsimp only
  rw [h, if_pos rfl, h2, if_pos rfl]
end
def ldRound (rules : List Rule) (lens : List (Nat × Nat)) (numbers : List Nat) (m : Best) : Best × Bool := numbers.foldl (ldStep rules lens) (m, false)
def geo : Nat → Nat
  | 0 => 0
  | k + 1 => 1 + 4 * geo k
theorem geo_mono : ∀ {a b : Nat}, a ≤ b → geo a ≤ geo b
  | a, 0, h => by have : a = 0 := by omega
                  subst this; exact Nat.le_refl _
  | a, b + 1, h => by
    rcases Nat.lt_or_ge a (b + 1) with h1 | h1
    · have := geo_mono (a := a) (b := b) (by omega)
      show _ ≤ 1 + 4 * geo b
      omega
    · have : a = b + 1 := by omega
      subst this; exact Nat.le_refl _
/-- the number that a word spells, to the base 128 -/
def val : List Nat → Nat
  | [] => 0
  | c :: l => c * 128 ^ l.length + val l
theorem val_lt : ∀ {l : List Nat}, (∀ c ∈ l, c < 128) → val l < 128 ^ l.length
  | [], _ => by simp [val]
  | c :: l, h => by
    have ih := val_lt (l := l) fun x hx => h x (List.mem_cons_of_mem _ hx)
    have hc := h c List.mem_cons_self
    show c * 128 ^ l.length + val l < 128 ^ (l.length + 1)
    have : (c + 1) * 128 ^ l.length ≤ 128 * 128 ^ l.length := Nat.mul_le_mul_right _ (by omega)
    rw [Nat.pow_succ, Nat.mul_comm (128 ^ l.length)]
    rw [Nat.add_mul] at this
    omega
theorem val_lex : ∀ {a b : List Nat}, a.length = b.length → (∀ c ∈ a, c < 128) → a < b → val a < val b
  | [], [], _, _, h => absurd h (by simp)
  | [], _ :: _, h, _, _ => by simp at h
  | _ :: _, [], h, _, _ => by simp at h
  | x :: a, y :: b, hl, ha, h => by
    have hl' : a.length = b.length := by simpa using hl
    show x * 128 ^ a.length + val a < y * 128 ^ b.length + val b
    rw [← hl']
    rcases List.cons_lt_cons_iff.mp h with h1 | ⟨h1, h2⟩
    · have q := val_lt (l := a) fun c hc => ha c (List.mem_cons_of_mem _ hc)
      have : (x + 1) * 128 ^ a.length ≤ y * 128 ^ a.length := Nat.mul_le_mul_right _ h1
      rw [Nat.add_mul] at this
      omega
    · subst h1
      have ih := val_lex hl' (fun c hc => ha c (List.mem_cons_of_mem _ hc)) h2
      omega
def UN : Nat := 128 ^ 25
def BIGD : Nat := (geo 27 + 1) * UN
def wgt (best : Best) (c : Nat) : Nat := match aGet best c with
  | none => BIGD
  | some t => t.a * UN + val t.b
def muD (best : Best) : Nat := ((List.range 26).map fun i => wgt best (65 + i)).sum
def ldFuel : Nat := muD [] + 1
def leastDerivations (rules : List Rule) (numbers : List Nat) (lens : List (Nat × Nat)) : Best := rounds (ldRound rules lens numbers) ldFuel []
structure LDok (lens : List (Nat × Nat)) (m : Best) : Prop where
  nd : (m.map (·.1)).Nodup
  nm : ∀ c ∈ m.map (·.1), nam c = true
  st : ∀ c t, aGet m c = some t → t.a ≤ geo m.length
  wl : ∀ c t, aGet m c = some t → t.b.length = (aGet lens c).getD 0 ∧ t.b.length ≤ 24
  wc : ∀ c t, aGet m c = some t → ∀ x ∈ t.b, sgn x = true
  hl : ∀ c ∈ m.map (·.1), (aGet lens c).isSome = true
theorem LDok.nil (lens : List (Nat × Nat)) : LDok lens [] := ⟨by simp, by simp, fun c x h => (by cases h), fun c x h => (by cases h), fun c x h => (by cases h), fun c hc => (by cases hc)⟩
section
variable {lens : List (Nat × Nat)} {m : Best} {r : Rule}
theorem LDok.few (h : LDok lens m) : m.length ≤ 26 := by
  have := nam_few h.nd h.nm
  rwa [List.length_map] at this
theorem sgn_lt {c : Nat} (h : sgn c = true) : c < 128 := by
  have : ∀ x ∈ SIGNSl, x < 128 := by decide
  exact this c (by simpa [sgn] using h)
theorem bW_len (h : LDok lens m) {c : Nat} (hc : (aGet m c).isSome = true) : (bW m c).length = (aGet lens c).getD 0 := by
  cases q : aGet m c with
  | none => rw [q] at hc; cases hc
  | some t => unfold bW; rw [q]; exact (h.wl c t q).1
theorem allIn_cons {α : Type} {m : List (Nat × α)} {c : Nat} {b : List Nat} : allIn m (c :: b) = true ↔ (nam c = true → (aGet m c).isSome = true) ∧ allIn m b = true := by
  unfold allIn namesIn
  by_cases h : nam c = true
  · rw [List.filter_cons, if_pos h, List.all_cons, Bool.and_eq_true]
    exact ⟨fun ⟨a, b⟩ => ⟨fun _ => a, b⟩, fun ⟨a, b⟩ => ⟨a h, b⟩⟩
  · rw [List.filter_cons, if_neg h]
    exact ⟨fun a => ⟨fun z => absurd z h, a⟩, fun a => a.2⟩
theorem total_cons {lens : List (Nat × Nat)} {c : Nat} {b : List Nat} : total lens (c :: b) = (if nam c = true then (aGet lens c).getD 0 else 1) + total lens b := by
  unfold total
  have h1 := namesIn_le b
  unfold namesIn at h1 ⊢
  by_cases h : nam c = true
  · rw [List.filter_cons, if_pos h, if_pos h, List.map_cons, List.sum_cons, List.length_cons, List.length_cons]
    omega
  · rw [List.filter_cons, if_neg h, if_neg h, List.length_cons]
    omega
theorem ldWord_len (h : LDok lens m) : ∀ {b : List Nat}, allIn m b = true → (ldWord m b).length = total lens b
  | [], _ => rfl
  | c :: b, hb => by
    obtain ⟨h1, h2⟩ := allIn_cons.mp hb
    have ih := ldWord_len h h2
    show (ldPart m c ++ ldWord m b).length = _
    rw [List.length_append, ih, total_cons]
    unfold ldPart
    by_cases hn : nam c = true
    · rw [if_pos hn, if_pos hn, bW_len h (h1 hn)]
    · rw [if_neg hn, if_neg hn]; rfl
theorem ldWord_sgn (h : LDok lens m) : ∀ {b : List Nat}, (∀ c ∈ b, (sgn c || nam c) = true) → ∀ x ∈ ldWord m b, sgn x = true
  | [], _, x, hx => by cases hx
  | c :: b, hb, x, hx => by
    have hx' : x ∈ ldPart m c ++ ldWord m b := hx
    rcases List.mem_append.mp hx' with z | z
    · unfold ldPart at z
      by_cases hn : nam c = true
      · rw [if_pos hn] at z
        unfold bW at z
        cases q : aGet m c with
        | none => rw [q] at z; cases z
        | some t => rw [q] at z; exact h.wc c t q x z
      · rw [if_neg hn] at z
        simp at z
        subst z
        have := hb x List.mem_cons_self
        rw [Bool.or_eq_true] at this
        exact this.resolve_right hn
    · exact ldWord_sgn h (fun y hy => hb y (List.mem_cons_of_mem _ hy)) x z
theorem ldSteps_le (h : LDok lens m) {b : List Nat} (hb : b.length ≤ 4) : ldSteps m b ≤ geo (m.length + 1) := by
  unfold ldSteps
  have h1 := namesIn_le b
  have h2 := sum_le_mul (bS m) (geo m.length) (namesIn b) fun c _ => by
    unfold bS
    cases q : aGet m c with
    | none => simp
    | some x => exact h.st c x q
  have h3 : (namesIn b).length * geo m.length ≤ 4 * geo m.length := Nat.mul_le_mul_right _ (by omega)
  show _ ≤ 1 + 4 * geo m.length
  omega
/-- a rule that may be used: its word's length is known and small -/
structure RuOk (lens : List (Nat × Nat)) (r : Rule) : Prop where
  nm : nam r.1 = true
  few : r.2.length ≤ 4
  ok : ∀ c ∈ r.2, (sgn c || nam c) = true
  al : allIn lens r.2 = true
  here : (aGet lens r.1).isSome = true
  small : (aGet lens r.1).getD 0 ≤ 24
theorem swL_le {i j : Nat} {a b : List Nat} (h : swL i a j b = true) : i ≤ j := by
  unfold swL at h
  split at h
  · omega
  · have := of_decide_eq_true h; omega
theorem LDok.put (h : LDok lens m) (hr : RuOk lens r) (hd : ldDue lens m r = true) (hb : ldBetter m r = true) (n : Nat) : LDok lens (aPut m r.1 ⟨ldSteps m r.2, ldWord m r.2, n⟩) := by
  unfold ldDue at hd
  rw [Bool.and_eq_true, decide_eq_true_eq] at hd
  have hwl := ldWord_len h hd.2
  refine ⟨aPut_nodup h.nd, fun c hc => ?_, fun c x hx => ?_, fun c x hx => ?_, fun c x hx => ?_, fun c hc => ?_⟩
  · rw [aPut_keys] at hc
    split at hc
    · exact h.nm c hc
    · rcases List.mem_append.mp hc with hc | hc
      · exact h.nm c hc
      · simp at hc; subst hc; exact hr.nm
  · rw [aGet_put] at hx
    rw [aPut_length]
    by_cases e : c = r.1
    · subst e
      rw [if_pos rfl] at hx
      cases hx
      cases q : aGet m r.1 with
      | none => simp only [Option.isSome_none, Bool.false_eq_true, if_false]; exact ldSteps_le h hr.few
      | some y =>
        unfold ldBetter at hb
        rw [q] at hb
        have h1 := h.st _ _ q
        have h2 : ldSteps m r.2 ≤ y.a := swL_le hb
        simp only [Option.isSome_some, if_true]
        show ldSteps m r.2 ≤ _
        omega
    · rw [if_neg e] at hx
      have h1 := h.st _ _ hx
      split
      · exact h1
      · have := geo_mono (show m.length ≤ m.length + 1 by omega)
        omega
  · rw [aGet_put] at hx
    by_cases e : c = r.1
    · subst e
      rw [if_pos rfl] at hx
      cases hx
      show (ldWord m r.2).length = _ ∧ (ldWord m r.2).length ≤ 24
      rw [hwl, hd.1]
      exact ⟨rfl, hr.small⟩
    · rw [if_neg e] at hx
      exact h.wl c x hx
  · rw [aGet_put] at hx
    by_cases e : c = r.1
    · subst e
      rw [if_pos rfl] at hx
      cases hx
      exact ldWord_sgn h hr.ok
    · rw [if_neg e] at hx
      exact h.wc c x hx
  · rw [aPut_keys] at hc
    split at hc
    · exact h.hl c hc
    · rcases List.mem_append.mp hc with hc | hc
      · exact h.hl c hc
      · simp at hc; subst hc; exact hr.here
theorem val_small {l : List Nat} (h : ∀ c ∈ l, sgn c = true) (hl : l.length ≤ 24) : val l < UN := by
  have h1 := val_lt (l := l) fun c hc => sgn_lt (h c hc)
  have h2 := Nat.pow_le_pow_right (show 0 < 128 by decide) (show l.length ≤ 25 by omega)
  unfold UN
  omega
theorem muD_put (h : LDok lens m) (hr : RuOk lens r) (hd : ldDue lens m r = true) (hb : ldBetter m r = true) (n : Nat) : muD (aPut m r.1 ⟨ldSteps m r.2, ldWord m r.2, n⟩) < muD m := by
  have hrn := nam_iff.mp hr.nm
  have key := sum_change (fun i => wgt m (65 + i)) (fun i => wgt (aPut m r.1 ⟨ldSteps m r.2, ldWord m r.2, n⟩) (65 + i)) (r.1 - 65) (fun i hi => by
    show wgt _ (65 + i) = wgt _ (65 + i)
    unfold wgt
    rw [aGet_put, if_neg (by omega)]) 26
  rw [if_pos (by omega), if_pos (by omega)] at key
  have e : 65 + (r.1 - 65) = r.1 := by omega
  simp only [e] at key
  have hd' := hd
  unfold ldDue at hd'
  rw [Bool.and_eq_true, decide_eq_true_eq] at hd'
  have hwl := ldWord_len h hd'.2
  have hsg := ldWord_sgn h hr.ok
  have hl24 : (ldWord m r.2).length ≤ 24 := by rw [hwl, hd'.1]; exact hr.small
  have hlt : wgt (aPut m r.1 ⟨ldSteps m r.2, ldWord m r.2, n⟩) r.1 < wgt m r.1 := by
    unfold wgt
    rw [aGet_put, if_pos rfl]
    have hv := val_small hsg hl24
    cases q : aGet m r.1 with
    | none =>
      have h1 := ldSteps_le h hr.few
      have h2 := geo_mono (show m.length + 1 ≤ 27 by have := h.few; omega)
      have h3 : (ldSteps m r.2 + 1) * UN ≤ (geo 27 + 1) * UN := Nat.mul_le_mul_right _ (by omega)
      show ldSteps m r.2 * UN + val (ldWord m r.2) < (geo 27 + 1) * UN
      rw [Nat.add_mul] at h3
      omega
    | some t =>
      show ldSteps m r.2 * UN + val (ldWord m r.2) < t.a * UN + val t.b
      unfold ldBetter at hb
      rw [q] at hb
      have hb' : swL (ldSteps m r.2) (ldWord m r.2) t.a t.b = true := hb
      unfold swL at hb'
      split at hb'
      · rename_i e1
        have hle : (ldWord m r.2).length = t.b.length := by rw [hwl, hd'.1, (h.wl _ _ q).1]
        have := val_lex hle (fun c hc => sgn_lt (hsg c hc)) (of_decide_eq_true hb')
        rw [e1]
        omega
      · have h1 := of_decide_eq_true hb'
        have h3 : (ldSteps m r.2 + 1) * UN ≤ t.a * UN := Nat.mul_le_mul_right _ h1
        rw [Nat.add_mul] at h3
        omega
  unfold muD
  omega
end
section
variable {rules : List Rule} {lens : List (Nat × Nat)}
/-- what each turn of a round keeps -/
theorem ldFold {numbers : List Nat} : ∀ (st : Best × Bool), (∀ n ∈ numbers, ∃ r, rules[n]? = some r ∧ RuOk lens r) → LDok lens st.1 →
    LDok lens (numbers.foldl (ldStep rules lens) st).1 ∧ muD (numbers.foldl (ldStep rules lens) st).1 ≤ muD st.1 ∧ (st.2 = false → (numbers.foldl (ldStep rules lens) st).2 = true → muD (numbers.foldl (ldStep rules lens) st).1 < muD st.1) ∧
    ((numbers.foldl (ldStep rules lens) st).2 = false → (numbers.foldl (ldStep rules lens) st) = st) := by
  induction numbers with
  | nil =>
    intro st _ h
    refine ⟨h, Nat.le_refl _, fun h1 h2 => ?_, fun _ => rfl⟩
    rw [List.foldl_nil, h1] at h2
    cases h2
  | cons n rest ih =>
    intro st hr h
    obtain ⟨r, hn, hro⟩ := hr n List.mem_cons_self
    have step : LDok lens (ldStep rules lens st n).1 ∧ (ldStep rules lens st n = st ∨ (muD (ldStep rules lens st n).1 < muD st.1 ∧ (ldStep rules lens st n).2 = true)) := by
      unfold ldStep
      rw [hn]
      dsimp only
      split
      · rename_i hd
        split
        · rename_i hb
          exact ⟨h.put hro hd hb n, .inr ⟨muD_put h hro hd hb n, rfl⟩⟩
        · exact ⟨h, .inl rfl⟩
      · exact ⟨h, .inl rfl⟩
    obtain ⟨h1, h2⟩ := step
    obtain ⟨a1, a2, a3, a4⟩ := ih (ldStep rules lens st n) (fun x hx => hr x (List.mem_cons_of_mem _ hx)) h1
    rw [List.foldl_cons]
    rcases h2 with e | ⟨e1, e2⟩
    · rw [e] at a1 a2 a3 a4 ⊢
      exact ⟨a1, a2, a3, a4⟩
    · refine ⟨a1, by omega, fun _ _ => by omega, fun q => ?_⟩
      have := a4 q
      rw [this, e2] at q
      cases q
end
end SF
namespace SF
open PySem PySem.Spec PyProof.Rows L2
/-! ### x < y of data of one shape; of pairs of a number and a text -/
section
variable {X : Cx}
def rLtD (K : PySem.W.Frag) : R2 := fun x y H Q => ∃ d e, Dp K H x d ∧ Dp K H y e ∧ PySem.W.alike d e = true ∧ d ≠ .none ∧ min d.depth e.depth ≤ 64 ∧ Q (.bl (PySem.W.dataLt d e)) H
theorem op_ltD (hu : X.A.units + 64 < cLine) : OpR X (compareOp .Lt) (rLtD X.K) := by
  intro pins s σ H x y v u Q I rx ry h
  obtain ⟨d, e, hd, he, ha, hn, hz, q⟩ := h
  obtain ⟨as, r1⟩ := Dp.reads I d x v hd rx
  obtain ⟨bs, r2⟩ := Dp.reads I e y u he ry
  exact PySem.W.rcLt_alike d e X.A s v u as bs r1 r2 ha hn (by omega) X.prog X.w _ _ ⟨.bl _, H, I, rfl, q⟩
def swLt (i : Int) (a : List Nat) (j : Int) (b : List Nat) : Bool := if i = j then decide (a < b) else decide (i < j)
theorem dataLt_sw (i j : Int) (a b : List Nat) : PySem.W.dataLt (.tuple [.int i, .str (S a)]) (.tuple [.int j, .str (S b)]) = swLt i a j b := by
  rw [PySem.W.dataLt_tuple]
  unfold swLt
  by_cases h : i = j
  · rw [if_pos h, PySem.W.dataLt_all_yes rfl (by rw [PyData.eqv, beq_iff_eq]; exact h)]
    by_cases h2 : a = b
    · rw [PySem.W.dataLt_all_yes rfl (by rw [PyData.eqv, beq_iff_eq, h2]), h2, lex_irrefl]
      simp
    · rw [PySem.W.dataLt_all_no rfl (by rw [PyData.eqv, beq_eq_false_iff_ne]; exact fun e => h2 (S_inj.mp e)), PySem.W.dataLt_str, S_cps, S_cps]
  · rw [if_neg h, PySem.W.dataLt_all_no rfl (by rw [PyData.eqv, beq_eq_false_iff_ne]; exact h), PySem.W.dataLt_int]
def rLtSW (K : PySem.W.Frag) : R2 := fun x y H Q => ∃ p q i j a b, x = .ref p ∧ y = .ref q ∧ SqT K H p [.int i, .str (S a)] ∧ SqT K H q [.int j, .str (S b)] ∧ Q (.bl (swLt i a j b)) H
theorem op_ltSW (hu : X.A.units + 64 < cLine) : OpR X (compareOp .Lt) (rLtSW X.K) := by
  intro pins s σ H x y v u Q I rx ry h
  obtain ⟨p, q, i, j, a, b, rfl, rfl, hp, hq, h⟩ := h
  refine op_ltD hu pins s σ H _ _ v u Q I rx ry ⟨_, _, .tup hp (.cons (.int i) (.cons (.str _) .nil)), .tup hq (.cons (.int j) (.cons (.str _) .nil)), rfl, (fun z => nomatch z), ?_, ?_⟩
  · simp [PyData.depth, PyData.depthAll]
  · rw [dataLt_sw]; exact h
theorem op_ltSWK {K : PySem.W.Frag} (hu : X.A.units + 64 < cLine) (h : X.K = K := by rfl) : OpR X (compareOp .Lt) (rLtSW K) := by subst h; exact op_ltSW hu
end
end SF
namespace SF
open PySem PySem.Spec PyProof.Rows L2
theorem DGet.some {H : Hp} {a : Addr} {kvs : List (Key × V)} {k : Key} {v : V} (e : H a = some (.dK kvs)) (h : valV kvs k = some v) : DGet H a (kV k) (some v) := h ▸ DGet.k e
theorem at_ofG {α : Type} {xs : List α} {z : Int} {j : Nat} {v : α} (e : z = (j : Int)) (h : xs[j]? = some v) : atI xs z = some v := by
  have hlt := (List.getElem?_eq_some_iff.mp h).1
  subst e
  unfold atI ixN
  rw [if_pos (by omega), if_pos (by omega), Int.toNat_natCast]
  exact h
/-! ### joined texts -/
def joinL (sep : List Nat) : List (List Nat) → List Nat
  | [] => []
  | [x] => x
  | x :: y :: r => x ++ sep ++ joinL sep (y :: r)
theorem join_S' (sep : List Nat) : ∀ ls : List (List Nat), Str.join (S sep) (ls.map S) = S (joinL sep ls)
  | [] => rfl
  | [x] => rfl
  | x :: y :: r => by
    have ih := join_S' sep (y :: r)
    show S x ++ S sep ++ Str.join (S sep) ((y :: r).map S) = S (x ++ sep ++ joinL sep (y :: r))
    rw [ih, S_app, S_app]
theorem join_S (sep : List Nat) (ls : List (List Nat)) : Txt.join (S sep) (ls.map S) = S (joinL sep ls) := (StrLaws.glued_eq_join _ _).trans (join_S' sep ls)
theorem joinL_nil : ∀ ls : List (List Nat), joinL [] ls = ls.flatten
  | [] => rfl
  | [x] => by simp [joinL]
  | x :: y :: r => by
    show x ++ [] ++ joinL [] (y :: r) = _
    rw [joinL_nil (y :: r)]
    simp
theorem S_empty : (Str.ofString "") = S [] := by decide
theorem map_len (ls : List (List Nat)) : ((ls.map S).map (·.length)).sum = (ls.map List.length).sum := by
  rw [List.map_map, show ((fun x : Str => x.length) ∘ S) = List.length from funext fun l => S_len l]
/-! ### comprehensions over a list of data -/
section
variable {α β : Type} {J : It} {n : Nat} {G : Hp → Prop} {Y : Nat → Hp → V → Hp → Prop}
theorem lcfil (w : Walk J n G Y) {r : Rl β} [Mono r] {g : TG} {tt : TT} {te : TE} {vs : List Nat} {σ : L2.St} {F H1 : Hp} {D : Addr} {Qd : Hp → Prop} (xs : List α) (p : α → Bool) (f : α → β) (hD : H1 D = none) (sF : Same F H1) (hn : n = xs.length) (hz : xs.length < sizeLine)
    (hG : ∀ F4 H4, Ext F H1 F4 H4 → G H4)
    (turn : ∀ i x v F4 H4 H5, xs[i]? = some x → Ext F H1 F4 H4 → Y i H4 v H5 → ∀ (Qy : V → Hp → Prop) (Qn : Hp → Prop), (p x = true → ∀ y F7 H7, Ext F4 H4 F7 H7 → r F7 y (f x) → Qy y H7) → (p x = false → ∀ F7 H7, Ext F4 H4 F7 H7 → Qn H7) →
      g v (wipe σ vs) H5 fun σ2 H6 => wipe σ2 vs = wipe σ vs ∧ tt σ2 H6 fun b H7 => if b = true then te σ2 H7 Qy else Qn H7)
    (hd : ∀ ws F' H', Ext F H1 F' H' → F' D = some (.lst ws) → Al r F' ws ((xs.filter p).map f) → Qd H') :
    ∃ W : Nat → Nat → Hp → Prop, (∃ m, W 0 m (upd H1 D (.lst []))) ∧ ∀ i m H, W i m H →
      (J.stop i H ∧ Qd H) ∨ (J.go i H ∧ ∃ Nx : Hp → Prop, (∀ H', Nx H' → ∃ m', m' < m ∧ W (i + 1) m' H') ∧ ∀ x H', J.yld i H x H' → g x (wipe σ vs) H' fun σ2 H2 => wipe σ2 vs = wipe σ vs ∧ tt σ2 H2 fun b H3 =>
        if b = true then te σ2 H3 fun y H4 => ∃ acc, H4 D = some (.lst acc) ∧ acc.length < sizeLine ∧ Nx (upd H4 D (.lst (acc ++ [y]))) else Nx H3) := by
  refine lc_it w (LcI r F H1 D fun i => ((xs.take i).filter p).map f) (LcI.start sF hD rfl) (fun i H _ h => ?_) ?_ ?_
  · obtain ⟨F', ws, e, _⟩ := h
    exact hG F' H e
  · rintro i v H4 H5 hi ⟨F4, ws, e4, f4, hD4, al4⟩ hy
    have hi2 : i < xs.length := by omega
    have hx : xs[i]? = some xs[i] := List.getElem?_eq_getElem hi2
    have hzz : (((xs.take i).filter p).map f).length < sizeLine := by
      have h1 := List.length_filter_le p (xs.take i)
      rw [List.length_take] at h1
      rw [List.length_map]; omega
    refine turn i xs[i] v F4 H4 H5 hx e4 hy _ _ (fun hp y F7 H7 e7 q => ?_) (fun hp F7 H7 e7 => ?_)
    · exact LcI.yes (f xs[i]) hD e4 f4 hD4 al4 e7 q (by show List.map f (List.filter p _) = _; rw [filter_yes hx hp, List.map_append]; rfl) hzz
    · exact LcI.no e4 f4 hD4 al4 e7 (by show List.map f (List.filter p _) = _; rw [filter_no hx hp])
  · intro H7 h7
    obtain ⟨F7, vs7, e7, fD7, al7⟩ := h7.frz hD
    rw [hn, List.take_length] at al7
    exact hd vs7 F7 H7 e7 fD7 al7
theorem lcmap (w : Walk J n G Y) {r : Rl β} [Mono r] {g : TG} {te : TE} {vs : List Nat} {σ : L2.St} {F H1 : Hp} {D : Addr} {Qd : Hp → Prop} (xs : List α) (f : α → β) (hD : H1 D = none) (sF : Same F H1) (hn : n = xs.length) (hz : xs.length < sizeLine)
    (hG : ∀ F4 H4, Ext F H1 F4 H4 → G H4)
    (turn : ∀ i x v F4 H4 H5, xs[i]? = some x → Ext F H1 F4 H4 → Y i H4 v H5 → ∀ (Qy : V → Hp → Prop), (∀ y F7 H7, Ext F4 H4 F7 H7 → r F7 y (f x) → Qy y H7) →
      g v (wipe σ vs) H5 fun σ2 H6 => wipe σ2 vs = wipe σ vs ∧ te σ2 H6 Qy)
    (hd : ∀ ws F' H', Ext F H1 F' H' → F' D = some (.lst ws) → Al r F' ws (xs.map f) → Qd H') :
    ∃ W : Nat → Nat → Hp → Prop, (∃ m, W 0 m (upd H1 D (.lst []))) ∧ ∀ i m H, W i m H →
      (J.stop i H ∧ Qd H) ∨ (J.go i H ∧ ∃ Nx : Hp → Prop, (∀ H', Nx H' → ∃ m', m' < m ∧ W (i + 1) m' H') ∧ ∀ x H', J.yld i H x H' → g x (wipe σ vs) H' fun σ2 H2 => wipe σ2 vs = wipe σ vs ∧ tYes σ2 H2 fun b H3 =>
        if b = true then te σ2 H3 fun y H4 => ∃ acc, H4 D = some (.lst acc) ∧ acc.length < sizeLine ∧ Nx (upd H4 D (.lst (acc ++ [y]))) else Nx H3) := by
  refine lc_it w (LcI r F H1 D fun i => (xs.take i).map f) (LcI.start sF hD rfl) (fun i H _ h => ?_) ?_ ?_
  · obtain ⟨F', ws, e, _⟩ := h
    exact hG F' H e
  · rintro i v H4 H5 hi ⟨F4, ws, e4, f4, hD4, al4⟩ hy
    have hi2 : i < xs.length := by omega
    have hx : xs[i]? = some xs[i] := List.getElem?_eq_getElem hi2
    have hzz : ((xs.take i).map f).length < sizeLine := by rw [List.length_map, List.length_take]; omega
    have q := turn i xs[i] v F4 H4 H5 hx e4 hy (fun y H => ∃ acc, H D = some (.lst acc) ∧ acc.length < sizeLine ∧ LcI r F H1 D (fun i => (xs.take i).map f) (i + 1) (upd H D (.lst (acc ++ [y])))) (fun y F7 H7 e7 q => LcI.yes (f xs[i]) hD e4 f4 hD4 al4 e7 q (by show List.map f _ = _; rw [map_more hx]) hzz)
    simpa only [tYes, reduceIte] using q
  · intro H7 h7
    obtain ⟨F7, vs7, e7, fD7, al7⟩ := h7.frz hD
    rw [hn, List.take_length] at al7
    exact hd vs7 F7 H7 e7 fD7 al7
end
section
variable {K : PySem.W.Frag} {β : Type}
/-- [e for c in names], the names' list frozen -/
theorem lc_cs {r : Rl β} [Mono r] {g : TG} {te : TE} {vs : List Nat} {σ : L2.St} {F H1 : Hp} {D a : Addr} {Qd : Hp → Prop} (cs : List Nat) (f : Nat → β) (hD : H1 D = none) (sF : Same F H1) (ha : F a = some (.lst (cs.map vc))) (hz : cs.length < sizeLine)
    (turn : ∀ c F4 H4, c ∈ cs → Ext F H1 F4 H4 → ∀ (Qy : V → Hp → Prop), (∀ y F7 H7, Ext F4 H4 F7 H7 → r F7 y (f c) → Qy y H7) → g (vc c) (wipe σ vs) H4 fun σ2 H6 => wipe σ2 vs = wipe σ vs ∧ te σ2 H6 Qy)
    (hd : ∀ ws F' H', Ext F H1 F' H' → F' D = some (.lst ws) → Al r F' ws (cs.map f) → Qd H') :
    ∃ W : Nat → Nat → Hp → Prop, (∃ m, W 0 m (upd H1 D (.lst []))) ∧ ∀ i m H, W i m H →
      ((Itl K a).stop i H ∧ Qd H) ∨ ((Itl K a).go i H ∧ ∃ Nx : Hp → Prop, (∀ H', Nx H' → ∃ m', m' < m ∧ W (i + 1) m' H') ∧ ∀ x H', (Itl K a).yld i H x H' → g x (wipe σ vs) H' fun σ2 H2 => wipe σ2 vs = wipe σ vs ∧ tYes σ2 H2 fun b H3 =>
        if b = true then te σ2 H3 fun y H4 => ∃ acc, H4 D = some (.lst acc) ∧ acc.length < sizeLine ∧ Nx (upd H4 D (.lst (acc ++ [y]))) else Nx H3) := by
  refine lcmap (walk_list (K := K) (a := a) (xs := cs.map vc)) cs f hD sF (List.length_map ..) hz (fun F4 H4 e => SqL.of (e.sm _ _ ha)) (fun i c v F4 H4 H5 hc e hy Qy q => ?_) hd
  obtain ⟨rfl, hy⟩ := hy
  have : v = vc c := by
    have := map_get' (f := vc) hc
    rw [hy] at this
    exact Option.some.inj this
  subst this
  exact turn c F4 H5 (List.mem_of_getElem? hc) e Qy q
/-- [e for c in text] -/
theorem lc_chars {r : Rl β} [Mono r] {g : TG} {te : TE} {vs : List Nat} {σ : L2.St} {F H1 : Hp} {D : Addr} {Qd : Hp → Prop} (cs : List Nat) (f : Nat → β) (hD : H1 D = none) (sF : Same F H1) (hz : cs.length < sizeLine)
    (turn : ∀ c F4 H4, c ∈ cs → Ext F H1 F4 H4 → ∀ (Qy : V → Hp → Prop), (∀ y F7 H7, Ext F4 H4 F7 H7 → r F7 y (f c) → Qy y H7) → g (vc c) (wipe σ vs) H4 fun σ2 H6 => wipe σ2 vs = wipe σ vs ∧ te σ2 H6 Qy)
    (hd : ∀ ws F' H', Ext F H1 F' H' → F' D = some (.lst ws) → Al r F' ws (cs.map f) → Qd H') :
    ∃ W : Nat → Nat → Hp → Prop, (∃ m, W 0 m (upd H1 D (.lst []))) ∧ ∀ i m H, W i m H →
      ((Its (S cs)).stop i H ∧ Qd H) ∨ ((Its (S cs)).go i H ∧ ∃ Nx : Hp → Prop, (∀ H', Nx H' → ∃ m', m' < m ∧ W (i + 1) m' H') ∧ ∀ x H', (Its (S cs)).yld i H x H' → g x (wipe σ vs) H' fun σ2 H2 => wipe σ2 vs = wipe σ vs ∧ tYes σ2 H2 fun b H3 =>
        if b = true then te σ2 H3 fun y H4 => ∃ acc, H4 D = some (.lst acc) ∧ acc.length < sizeLine ∧ Nx (upd H4 D (.lst (acc ++ [y]))) else Nx H3) := by
  refine lcmap (walk_str (z := S cs)) cs f hD sF (S_size cs) hz (fun _ _ _ => trivial) (fun i c v F4 H4 H5 hc e hy Qy q => ?_) hd
  obtain ⟨rfl, ch, h1, rfl⟩ := hy
  have h1 := S_get h1
  rw [hc] at h1
  obtain rfl := Option.some.inj h1
  exact turn c F4 H5 (List.mem_of_getElem? hc) e Qy q
/-- [e for i in range(n)] -/
theorem lc_rng {r : Rl β} [Mono r] {g : TG} {te : TE} {vs : List Nat} {σ : L2.St} {F H1 : Hp} {D : Addr} {Qd : Hp → Prop} {n : Nat} (f : Nat → β) (hD : H1 D = none) (sF : Same F H1) (hz : n < sizeLine)
    (turn : ∀ i F4 H4, i < n → Ext F H1 F4 H4 → ∀ (Qy : V → Hp → Prop), (∀ y F7 H7, Ext F4 H4 F7 H7 → r F7 y (f i) → Qy y H7) → g (.int (0 + (i : Nat))) (wipe σ vs) H4 fun σ2 H6 => wipe σ2 vs = wipe σ vs ∧ te σ2 H6 Qy)
    (hd : ∀ ws F' H', Ext F H1 F' H' → F' D = some (.lst ws) → Al r F' ws ((List.range n).map f) → Qd H') :
    ∃ W : Nat → Nat → Hp → Prop, (∃ m, W 0 m (upd H1 D (.lst []))) ∧ ∀ i m H, W i m H →
      ((Itr 0 n).stop i H ∧ Qd H) ∨ ((Itr 0 n).go i H ∧ ∃ Nx : Hp → Prop, (∀ H', Nx H' → ∃ m', m' < m ∧ W (i + 1) m' H') ∧ ∀ x H', (Itr 0 n).yld i H x H' → g x (wipe σ vs) H' fun σ2 H2 => wipe σ2 vs = wipe σ vs ∧ tYes σ2 H2 fun b H3 =>
        if b = true then te σ2 H3 fun y H4 => ∃ acc, H4 D = some (.lst acc) ∧ acc.length < sizeLine ∧ Nx (upd H4 D (.lst (acc ++ [y]))) else Nx H3) := by
  refine lcmap (walk_range (lo := 0) (n := n)) (List.range n) f hD sF List.length_range.symm (by rw [List.length_range]; exact hz) (fun _ _ _ => trivial) (fun i c v F4 H4 H5 hc e hy Qy q => ?_) hd
  obtain ⟨rfl, rfl⟩ := hy
  have hlt : i < n := by have := (List.getElem?_eq_some_iff.mp hc).1; rwa [List.length_range] at this
  rw [List.getElem?_range hlt] at hc
  obtain rfl := Option.some.inj hc
  exact turn i F4 H5 hlt e Qy q
end
end SF
/-! ### sets of texts, made of a list, and sorted -/
namespace SF
open PySem PySem.Spec PyProof.Rows L2 PySem.Froz
/-- at a stands a set of the texts l (none twice); its table rises and can be walked -/
def TS (P : Program) (w : World) (h : Heap) (a : Addr) (l : List Str) : Prop :=
  ∃ D : SD, h.get? a = some (sObj "set" D) ∧ TxOk P w D l ∧ l.Nodup ∧ Ris D.2.2.place.toList ∧ (w.params.followText "set-order" = true ∨ D.2.2.led = true)
section
variable {P : Program} {w : World} {A : Around} {E : Value → Shared → Prop} {s : Shared}
theorem TS.at {h h' : Heap} {a : Addr} {l : List Str} (R : TS P w h a l) (k : ∀ o, h.get? a = some o → h'.get? a = some o) : TS P w h' a l := by
  obtain ⟨D, ho, r⟩ := R
  exact ⟨D, k _ ho, r⟩
theorem addTx_walk {h : Int} {v : Value} {D : SD} (r : Ris D.2.2.place.toList) : Ris (addTx h v D).2.2.place.toList ∧ (addTx h v D).2.2.led = D.2.2.led := by
  have h1 := layNew_ris D.2.2 D.1 h v r
  have h2 := layNew_led D.2.2 D.1 h v
  have key : ∀ (ep : Nat) (es1 : Array (Int × Value)) (t2 : SetTable) (b : Bool), Ris t2.place.toList → t2.led = D.2.2.led → Ris (tailTx ep es1 t2 b).2.2.place.toList ∧ (tailTx ep es1 t2 b).2.2.led = D.2.2.led := by
    intro ep es1 t2 b q1 q2
    unfold tailTx
    split
    · exact ⟨relayAll_ris t2 es1 _, (relayAll_led t2 es1 _).trans q2⟩
    · exact ⟨q1, q2⟩
  unfold addTx
  split
  · exact key _ _ _ _ h1 h2
  · exact key _ _ _ _ h1 h2
/-- what stands there already -/
theorem add_old {a : Addr} {T : String} {D : SD} {l : List Str} {k : Str} {u : Tok} {Q : Bool → Shared → Prop} (ho : s.heap.get? a = some (sObj T D)) (F : TxOk P w D l) (hk : k ∈ l) (hb : l.length < scanBound) (h : Q false s) :
    wpAny (model P w) A (setAddHashed a (.str k u) (hashStr w k)) Q E s := by
  obtain ⟨es, ep, t⟩ := D
  have hel : ElemsOf (strKind P w) es.toList := F.el
  have hsz : es.size = l.length := F.sz
  unfold setAddHashed setAddHashedIn
  refine wpAny_holding (wpAny_bind (wpAny_setState_of ho rfl F.fit ?_))
  dsimp only
  rw [byScan_of rfl (by omega) hel]
  simp only [↓reduceIte]
  unfold setAddByScan
  refine wpAny_bind (wpAny_bind (wpAny_rule (wpAny_bind (wpAny_setScan_of (knd := strKind P w) (k := k) (is_str k u) ho rfl F.fit hel ?_))))
  cases hr : List.findIdx? (fun e => (strKind P w).is k e.2) es.toList with
  | some j => exact wpAny_pure (wpAny_pure h)
  | none =>
    obtain ⟨e, he, q⟩ := (F.mem k).mp hk
    have c := List.findIdx?_eq_none_iff.mp hr e he
    rw [q] at c
    cases c
/-- one text more -/
theorem TS.add {a : Addr} {l : List Str} {k : Str} {u : Tok} {Q : Bool → Shared → Prop} (R : TS P w s.heap a l) (hb : l.length + 1 < scanBound)
    (h : ∀ b h', Heap.SameBut a s.heap h' → TS P w h' a (if k ∈ l then l else k :: l) → Q b { s with heap := h' }) : wpAny (model P w) A (setAddHashed a (.str k u) (hashStr w k)) Q E s := by
  have R0 := R
  obtain ⟨D, ho, F, nd, r, hl⟩ := R
  by_cases hk : k ∈ l
  · refine add_old ho F hk (by omega) ?_
    have q := h false s.heap (Heap.SameBut.refl a s.heap)
    rw [if_pos hk] at q
    exact q R0
  · refine add_x ho F hk hb ?_
    obtain ⟨r2, l2⟩ := addTx_walk (h := hashStr w k) (v := .str k u) r
    refine h true _ (Heap.SameBut.update s.heap a _) ?_
    rw [if_neg hk]
    exact ⟨addTx (hashStr w k) (.str k u) D, get_upd _ ho rfl, add_ok u F, List.nodup_cons.mpr ⟨hk, nd⟩, r2, hl.imp id fun z => l2.trans z⟩
/-- the texts met in the first i -/
def met (ks : List Str) : Nat → List Str
  | 0 => []
  | i + 1 => match ks[i]? with
    | some k => if k ∈ met ks i then met ks i else k :: met ks i
    | none => met ks i
theorem met_len (ks : List Str) : ∀ i, (met ks i).length ≤ i
  | 0 => Nat.le_refl _
  | i + 1 => by
    have ih := met_len ks i
    unfold met
    split
    · split
      · omega
      · simp only [List.length_cons]; omega
    · omega
theorem met_mem (ks : List Str) (x : Str) : ∀ i, x ∈ met ks i ↔ x ∈ ks.take i
  | 0 => by simp [met]
  | i + 1 => by
    have ih := met_mem ks x i
    unfold met
    cases q : ks[i]? with
    | none =>
      dsimp only
      rw [ih]
      have : ks.length ≤ i := List.getElem?_eq_none_iff.mp q
      rw [List.take_of_length_le this, List.take_of_length_le (by omega)]
    | some k =>
      dsimp only
      rw [take_more q, List.mem_append, ← ih]
      split
      · rename_i hk
        constructor
        · exact .inl
        · rintro (z | z)
          · exact z
          · simp at z; subst z; exact hk
      · simp [or_comm]
theorem met_nodup (ks : List Str) : ∀ i, (met ks i).Nodup
  | 0 => by simp [met]
  | i + 1 => by
    have ih := met_nodup ks i
    unfold met
    split
    · split
      · exact ih
      · rename_i q; exact List.nodup_cons.mpr ⟨q, ih⟩
    · exact ih
theorem upd_loop {I : Addr} {fp wr : List Addr} {G : Array GenState → Array GenState → Prop} {n : Nat} {Pv : Nat → Value → Prop} {St : Nat → Shared → Prop} {R : Result → Shared → Prop}
    (W : WalksS P w A.in1 I fp wr G n Pv St) (a : Addr) (haf : a ∉ fp) (ks : List Str) (hn : n = ks.length) (hb : ks.length + 1 < scanBound) (hv : ∀ i v, Pv i v → ∃ k u, ks[i]? = some k ∧ v = .str k u) :
    ∀ (m i : Nat) (s : Shared), n - i = m → i ≤ n → St i s → TS P w s.heap a (met ks i) → (∀ s', Moved (a :: wr) G s s' → TS P w s'.heap a (met ks n) → R (.ok (.ret .none)) s') →
      codeAny (model P w) A (.builtin "set.update.loop" ⟨[.ref a, .ref I], []⟩) R s := by
  have haw : a ∉ wr := fun h => haf (W.sub _ h)
  have sub : ∀ b ∈ wr, b ∈ a :: wr := fun b hb => List.mem_cons_of_mem _ hb
  intro m
  induction m with
  | zero =>
    intro i s hm hi hst hS hR
    obtain rfl : i = n := by omega
    refine codeAny_builtin F.entry_set_update_loop ?_
    rw [Around.under_plainId F.plain_set_update_loop _]
    refine wpAny_bind (W.done s _ _ hst fun s' mv => ?_)
    exact wpAny_pure (hR s' (mv.mono sub) (hS.at fun o e => mv.heap a o haw e))
  | succ m ih =>
    intro i s hm hi hst hS hR
    have hlt : i < n := by omega
    refine codeAny_builtin F.entry_set_update_loop ?_
    rw [Around.under_plainId F.plain_set_update_loop _]
    refine wpAny_bind (W.item i s _ _ hlt hst fun v s' hP hst' mv => ?_)
    obtain ⟨k, u, hk, rfl⟩ := hv i v hP
    have hS' : TS P w s'.heap a (met ks i) := hS.at fun o e => mv.heap a o haw e
    show wpAny _ A.in1 (holding [Value.str k u] (setAdd a (.str k u)) >>= _) _ _ s'
    refine wpAny_bind (wpAny_holding ?_)
    unfold setAdd
    refine wpAny_holding (wpAny_bind ((strKind P w).pyHash (is_str k u) ?_))
    have hz := met_len ks i
    refine TS.add (s := { s' with toks := s'.toks + 1 }) hS' (by omega) fun b h' sb hS2 => ?_
    have e2 : (if k ∈ met ks i then met ks i else k :: met ks i) = met ks (i + 1) := by
      show _ = (match ks[i]? with | some k => if k ∈ met ks i then met ks i else k :: met ks i | none => met ks i)
      rw [hk]
    rw [e2] at hS2
    refine wpAny_pure ⟨plainId_quiet F.plain_set_update_loop _, ih (i + 1) _ (by omega) hlt (W.frame _ s' _ _ hst' (Nat.le_add_right _ _) fun b hb o e => ?_) hS2 fun s'' mv2 hS3 => ?_⟩
    · rw [sb.2 b (fun h : b = a => haf (by rw [← h]; exact hb))]; exact e
    · refine hR s'' (Moved.trans W.gtrans ((mv.mono sub).then_heap (Nat.le_add_right _ _) fun b o hb e => ?_) mv2) hS3
      rw [sb.2 b (fun h : b = a => hb (by rw [h]; exact List.mem_cons_self))]; exact e
end
section
variable {P : Program} {w : World} {A : Around} {E : Value → Shared → Prop} {s : Shared}
/-- the object of a new set -/
abbrev set0 (w : World) : Obj := { cls := .type "set", dict := none, data := .set #[] 0 (.fresh 0 0 (!w.params.followText "set-order")) }
theorem TS.fresh {h : Heap} {a : Addr} (ho : h.get? a = some (set0 w)) : TS P w h a [] :=
  ⟨(#[], 0, .fresh 0 0 (!w.params.followText "set-order")), ho, TxOk.nil rfl, List.nodup_nil, (by show Ris (#[] : Array Nat).toList; unfold Ris; simp), by
    show _ ∨ (!w.params.followText "set-order") = true
    cases w.params.followText "set-order" <;> simp⟩
/-- the walk of set.__init__ over a list of texts -/
theorem set_init {a l : Addr} {items : Array Value} {ks : List Str} {R : Result → Shared → Prop} (hh : A.handled = none) (ha : s.heap.get? a = some (set0 w)) (hl : s.heap.IsList l items) (hisz : items.size = ks.length) (hb : ks.length + 1 < scanBound)
    (hit : ∀ (i : Nat) v, items[i]? = some v → ∃ k u, ks[i]? = some k ∧ v = .str k u) (hal : a ≠ l)
    (h : ∀ h' tk, TS P w h' a (met ks ks.length) → (∀ b o, b ≠ a → s.heap.get? b = some o → h'.get? b = some o) → R (.ok (.ret .none)) { s with heap := h', toks := tk }) :
    codeAny (model P w) A (.builtin "set.update.loop" ⟨[.ref a, .ref s.heap.objs.size], []⟩) R { s with heap := s.heap.push { cls := .type "list_iterator", data := .fields #[.ref l, .int 0 0] } } := by
  have hlt : l < s.heap.objs.size := let ⟨_, e, _⟩ := hl; Heap.lt_size e
  have hat : a < s.heap.objs.size := Heap.lt_size ha
  have hfp : a ∉ [s.heap.objs.size, l] := by
    simp only [List.mem_cons, List.not_mem_nil, or_false, not_or]
    exact ⟨Nat.ne_of_lt hat, hal⟩
  refine upd_loop ((Walks.list (A := A.in1) (by simp [hh]) _ l (Nat.ne_of_lt hlt) items).toS) a hfp ks hisz hb hit (items.size - 0) 0 _ rfl (Nat.zero_le _) ⟨⟨_, Heap.get?_push_size _ rfl, rfl, rfl⟩, hl.push _⟩ (TS.fresh (Heap.get?_push_of_some _ ha)) fun s' mv hS => ?_
  obtain ⟨h', g2, d', tk', os'⟩ := s'
  obtain rfl : g2 = s.gens := mv.gens
  obtain rfl : d' = s.drawn := mv.drawn
  obtain rfl : os' = s.os := mv.os
  rw [hisz] at hS
  refine h h' tk' hS fun b o hba e => mv.heap b o (fun hb => ?_) (Heap.get?_push_of_some _ e)
  rcases List.mem_cons.mp hb with z | z
  · exact hba z
  · rw [List.mem_singleton.mp z] at e
    exact absurd (Heap.lt_size e) (Nat.lt_irrefl _)
/-- set(xs), xs a list of texts -/
theorem call_set_texts {l : Addr} {items : Array Value} {ks : List Str} {Q : Value → Shared → Prop} (hh : A.handled = none) (hl : s.heap.IsList l items) (hisz : items.size = ks.length) (hb : ks.length + 1 < scanBound)
    (hit : ∀ (i : Nat) v, items[i]? = some v → ∃ k u, ks[i]? = some k ∧ v = .str k u)
    (h : ∀ h' tk, TS P w h' s.heap.objs.size (met ks ks.length) → (∀ b o, s.heap.get? b = some o → h'.get? b = some o) → Q (.ref s.heap.objs.size) { s with heap := h', toks := tk }) :
    wpAny (model P w) A (call (.type "set") [.ref l]) Q E s := by
  obtain ⟨c, tl, hmro⟩ := F.called_set.mro
  have hmade := F.called_set.made
  have hsub := F.called_set.sub
  have h1 := F.called_set.notType
  have h2 := F.called_set.canCreate
  have hct := F.typeCall_set_1 (.ref l)
  have kS : ∀ b o, s.heap.get? b = some o → (s.heap.push (set0 w)).get? b = some o := fun b o e => Heap.get?_push_of_some _ e
  have hS : (s.heap.push (set0 w)).get? s.heap.objs.size = some (set0 w) := Heap.get?_push_size _ rfl
  have hT : Shared.TypeIs { s with heap := s.heap.push (set0 w) } (.ref s.heap.objs.size) "set" := ⟨_, hS, rfl⟩
  have hli := F.called_set.init.lookup
  have hbi := F.called_set.init.bind (.ref s.heap.objs.size)
  refine wpAny_call (codeAny_of_tree ?_)
  show wpAny _ _ (callAny (.type "set") _) _ _ _
  refine wpAny_pure ⟨Code.quiet_builtin _ (by decide +kernel), codeAny_builtin F.entry_type_call ?_⟩
  rw [Around.under_plain (weight_type_call_type "set" [.ref l] []) rfl]
  repeat (any_goals (first | assumption | wp_step))
  refine codeAny_mono (code_set_led1 (.ref l) (E := E) (Q₁ := fun obj s₁ => obj = .ref s.heap.objs.size ∧ s₁ = { s with heap := s.heap.push (set0 w) }) ⟨rfl, rfl⟩) fun r s₁ hr => ?_
  cases r with
  | error e => exact hr
  | ok fl =>
    cases fl with
    | ret obj =>
      obtain ⟨rfl, rfl⟩ := hr
      repeat (any_goals (first | assumption | wp_step))
      refine codeAny_mono (codeAny_call_builtin (R := wants (fun r s₂ => r = .none ∧ ∃ h' tk, s₂ = { s with heap := h', toks := tk } ∧ TS P w h' s.heap.objs.size (met ks ks.length) ∧ (∀ b o, s.heap.get? b = some o → h'.get? b = some o)) E)
        F.called_set.init.plain F.entry_set_init (check_set_init_1 hT ?_)) fun r₂ s₂ hr₂ => ?_
      · obtain ⟨ol, hol, hcl, nl, hdl⟩ := id hl
        obtain ⟨ocls, odict, odata, oslots⟩ := ol
        simp only at hcl hdl
        subst hcl; subst hdl
        have hol' : (s.heap.push (set0 w)).get? l = some { cls := .type "list", dict := odict, data := .seq items nl, slots := oslots } := kS _ _ hol
        have hsls := F.sub_list_set
        have hslf := F.sub_list_frozenset
        have hne : (Value.type "list" == Value.type "dict") = false := by decide
        have hl1 : (s.heap.push (set0 w)).IsList l items := ⟨_, hol', rfl, nl, rfl⟩
        unfold Builtin.«set.__init__» noKeywords Builtin.Frozenset.updateFrom
        generalize hPI : pyIter = PI
        wp_walk
        subst hPI
        refine wpAny_pyIter_list hl1 ?_
        refine wpAny_bind (wpAny_runValue ?_)
        refine set_init (s := { s with heap := s.heap.push (set0 w) }) (by simp [hh]) hS hl1 hisz hb hit (Nat.ne_of_gt (Heap.lt_size hol)) fun h' tk hR k' => ?_
        show wpAny _ _ _ _ _ _
        refine wpAny_pure ?_
        show wpAny _ _ (ret Value.none) _ _ _
        exact wpAny_pure ⟨rfl, h', tk, rfl, hR, fun b o e => k' b o (Nat.ne_of_lt (Heap.lt_size e)) (kS b o e)⟩
      · cases r₂ with
        | error e => exact hr₂
        | ok fl₂ =>
          cases fl₂ with
          | ret r =>
            obtain ⟨rfl, h', tk, rfl, hS', hk'⟩ := hr₂
            repeat (any_goals (first | assumption | wp_step))
            exact h _ _ hS' hk'
          | _ => exact hr₂.elim
    | _ => exact hr.elim
end
/-! ### sorted of such a set -/
section
variable {P : Program} {w : World} {A : Around} {E : Value → Shared → Prop} {s : Shared}
theorem strs_out {es : List (Int × Value)} (h : ElemsOf (PySem.strKind P w) es) : ∀ e ∈ es, ∃ x t, e.2 = .str x t := fun e he => by
  obtain ⟨⟨k, hk, _⟩, _⟩ := h e he
  exact ⟨k, Value.isStrOf_shape (x := k) (v := e.2) hk⟩
theorem sorted_texts {a : Addr} {l : List Str} {Q : Value → Shared → Prop} (R : TS P w s.heap a l) (hh : A.handled = none) (h64 : l.length < 64)
    (hQ : ∀ s' p (out : Array Value) (c : Nat) (ys : List Str), (∀ b o, s.heap.get? b = some o → s'.heap.get? b = some o) → s'.gens = s.gens → s'.os = s.os → s.heap.objs.size ≤ p →
      s'.heap.get? p = some (seqObj "list" out c) → StrsAre out.toList ys → ys.Nodup → (∀ x, x ∈ ys ↔ x ∈ l) → sortedS ys = true → Q (.ref p) s') :
    wpAny (model P w) A (call (.builtin "sorted") [.ref a]) Q E s := by
  obtain ⟨⟨es, ep, t⟩, ho, FT, nd, r, hled⟩ := R
  have hes : es.size = l.length := FT.sz
  refine Calls.call_function_entry kind_sorted plain_sorted entry_sorted (args_sorted1 _) ?_
  unfold Builtin.«sorted»
  refine wpAny_bind (m := checkCount "sorted" 1 1 _) (wpAny_pure ?_)
  have hc : SetAt s.heap a es ep t := ⟨_, ho, rfl, rfl⟩
  refine wpAny_bind (collect_set (A := A.in1) hh hc FT.fit (by rw [hes]; unfold scanBound; omega) r hled fun s1 vs k1 hz g1 o1 pm => ?_)
  have hvs : ∀ v ∈ vs, ∃ x t, v = .str x t := fun v hv => by
    obtain ⟨e, he, q⟩ := List.mem_map.mp (pm.mem_iff.mp hv)
    obtain ⟨x, tk, h1⟩ := strs_out FT.el e he
    exact ⟨x, tk, by rw [← q]; exact h1⟩
  have hS : StrsAre vs (vs.map strOf) := strsAre_map vs hvs
  have hvl : vs.length = l.length := by rw [pm.length_eq, List.length_map, Array.length_toList, hes]
  refine wpAny_bind (wpAny_newList ?_ (by rw [hvl, sizeLine_eq]; omega))
  have hoL : (s1.heap.push (seqObj "list" vs.toArray 0)).get? s1.heap.objs.size = some (seqObj "list" vs.toArray 0) := Heap.get?_push_size _ rfl
  refine wpAny_bind (wpAny_holding (wpAny_call_entry slot_list_sort ⟨_, hoL, rfl⟩ entry_list_sort (list_sort_treeK strKind_oneLt hoL hS.keysOf (fun v₁ v₂ rest e => keyKind_strs (by rw [← e]; exact hS)) (by rw [hvl]; exact h64) fun st' hp hs => ⟨_, rfl, ?_⟩) (args_list_sort _)))
  obtain ⟨ys, y1, y2, y3⟩ := sorted_out_str hS hp hs
  obtain ⟨c, hcc⟩ := sortedHeap_at (vs := vs) (out := (arrOf st').map (·.2)) hoL
  have mem1 : ∀ x, x ∈ vs.map strOf ↔ x ∈ l := fun x => by
    rw [(FT.mem x)]
    constructor
    · intro hx
      obtain ⟨v, hv, rfl⟩ := List.mem_map.mp hx
      obtain ⟨e, he, q⟩ := List.mem_map.mp (pm.mem_iff.mp hv)
      obtain ⟨y, tk, rfl⟩ := hvs v hv
      exact ⟨e, he, by rw [q]; exact is_str _ _⟩
    · rintro ⟨e, he, q⟩
      refine List.mem_map.mpr ⟨e.2, pm.mem_iff.mpr (List.mem_map_of_mem he), ?_⟩
      obtain ⟨tk, z⟩ := Value.isStrOf_shape (x := x) (v := e.2) q
      rw [z]; rfl
  have ndv : (vs.map strOf).Nodup := by
    have hsub := nodup_le (l := l) (s := vs.map strOf) nd fun x hx => (mem1 x).mpr hx
    rw [List.length_map, hvl] at hsub
    exact nodup_of_len nd (fun x hx => (mem1 x).mpr hx) (by rw [List.length_map, hvl])
  refine wpAny_pure ⟨_, rfl, hQ _ s1.heap.objs.size _ c ys (fun b u e => ?_) g1 o1 hz hcc y1 (y2.nodup_iff.mpr ndv) (fun x => by rw [y2.mem_iff, mem1 x]) y3⟩
  have q := k1 b u e
  have hlt := Heap.lt_size q
  show (sortedHeap (s1.heap.push (seqObj "list" vs.toArray 0)) s1.heap.objs.size vs _).get? b = some u
  rw [sortedHeap_old (Nat.ne_of_lt hlt) (by rw [size_push']; exact Nat.lt_succ_of_lt hlt)]
  exact Heap.get?_push_of_some _ q
end
/-! ### over the layer -/
def TSO (P : Program) (w : World) (a : Addr) (l : List Str) : HO := .ext fun h => TS P w h a l
section
variable {X : Cx}
theorem tso_ok {P : Program} {w : World} {H : Hp} {h : Heap} {a : Addr} {l : List Str} (R : TS P w h a l) : ObjOk P w H h a (TSO P w a l) := by
  have ⟨D, ho, _⟩ := R
  exact ⟨R, ⟨_, ho⟩, fun h1 h2 p k => p.at k⟩
def rSetL (K : PySem.W.Frag) (P : Program) (w : World) : List V → Hp → VK → Prop := fun xs H Q => ∃ (l : Addr) (ks : List Str), xs = [.ref l] ∧ SqL K H l (ks.map V.str) ∧ ks.length < 4000 ∧
  ∀ p, H p = none → Q (.ref p) (upd H p (TSO P w p (met ks ks.length)))
theorem cr_setOf (hc : X.calm = true) : CallR X (.type "set") (rSetL X.K X.prog X.w) := by
  intro pins s σ H xs us Q I r h
  obtain ⟨l, ks, rfl, hs, hz, q⟩ := h
  obtain ⟨its, rv, pl, _⟩ := I.list hs
  rw [Vals.ref1 r]
  have hlen := rv.length
  rw [List.length_map] at hlen
  refine call_set_texts (I.ok.hd hc) pl.isList (ks := ks) (by rw [List.size_toArray]; exact hlen.symm) (by unfold scanBound; omega) (fun i v hv => ?_) fun h' tk R k => ?_
  · have hv' : its[i]? = some v := by simpa using hv
    have hi : i < ks.length := by rw [hlen]; exact (List.getElem?_eq_some_iff.mp hv').1
    have e1 : (ks.map V.str)[i]? = some (.str ks[i]) := by rw [List.getElem?_map, List.getElem?_eq_getElem hi]; rfl
    obtain ⟨u, e2, r2⟩ := rv.get e1
    rw [hv'] at e2
    obtain rfl := Option.some.inj e2
    obtain ⟨t, rfl⟩ := r2
    exact ⟨_, t, List.getElem?_eq_getElem hi, rfl⟩
  · exact ⟨.ref _, _, I.laid (t' := tk) k (Nat.le_refl _) (tso_ok R), rfl, q _ (I.hok.fresh (Nat.le_refl _))⟩
def rSortSet (P : Program) (w : World) : List V → Hp → VK → Prop := fun vs H Q => ∃ (a : Addr) (l : List Str), vs = [V.ref a] ∧ H a = some (TSO P w a l) ∧ l.length < 64 ∧
  ∀ (ys : List Str) (p : Addr), ys.Nodup → (∀ x, x ∈ ys ↔ x ∈ l) → sortedS ys = true → ys.length ≤ 64 → H p = none → Q (.ref p) (upd H p (.lst (ys.map V.str)))
theorem cr_sortedSet' (hc : X.calm = true) : CallR X (.builtin "sorted") (rSortSet X.prog X.w) := by
  intro pins s σ H vs us Q I r h
  obtain ⟨a, l, rfl, ha, h64, q⟩ := h
  have R : TS X.prog X.w s.heap a l := (I.hok a _ ha).1
  rw [Vals.ref1 r]
  refine sorted_texts R (I.ok.hd hc) h64 fun s' p out c ys k g o hp hg hi nd hm hs => ?_
  have hl : ys.length ≤ l.length := nodup_le nd fun x hx => (hm x).mp hx
  have hlen : (ys.map V.str).length ≤ sizeLine := by rw [List.length_map, sizeLine_eq]; omega
  have hn : H p = none := I.hok.fresh hp
  have J : Inv X pins σ (upd H p (.lst (ys.map V.str))) { s with heap := s'.heap, gens := s'.gens, drawn := s'.drawn, toks := s'.toks } :=
    I.call (ch := []) (Un.laid k hp hn) (I.hok.laid k hp ⟨hlen, out.toList, c, vals_of_strs hi, hg⟩) (by rw [g]; exact I.bare) (fun _ z => nomatch z)
  have e : s' = { s with heap := s'.heap, gens := s'.gens, drawn := s'.drawn, toks := s'.toks } := by
    cases s'
    cases s
    cases o
    rfl
  rw [e]
  exact ⟨.ref p, _, J, rfl, q ys p nd hm hs (by omega) hn⟩
end
section
variable {X : Cx} {K : PySem.W.Frag} {P : Program} {w : World}
theorem cr_setOfK (hc : X.calm = true) (h : X.K = K := by rfl) (hP : X.prog = P := by rfl) (hw : X.w = w := by rfl) : CallR X (.type "set") (rSetL K P w) := by subst h hP hw; exact cr_setOf hc
theorem cr_sortedSetK (hc : X.calm = true) (hP : X.prog = P := by rfl) (hw : X.w = w := by rfl) : CallR X (.builtin "sorted") (rSortSet P w) := by subst hP hw; exact cr_sortedSet' hc
end
/-! ### sorted sets of one-letter texts -/
theorem rising_le : ∀ (l : List Nat) (p : Nat), risingS (S [p]) (l.map fun c => S [c]) = true → (p :: l).Pairwise (· ≤ ·)
  | [], p, _ => by simp
  | x :: r, p, h => by
    have h' : (!ltCps (S [x]).cps.toList (S [p]).cps.toList && risingS (S [x]) (r.map fun c => S [c])) = true := h
    rw [Bool.and_eq_true, S_cps, S_cps] at h'
    have hpx : p ≤ x := by
      have := h'.1
      simp [ltCps] at this
      omega
    have ih := rising_le r x h'.2
    rw [List.pairwise_cons]
    refine ⟨fun y hy => ?_, ih⟩
    rcases List.mem_cons.mp hy with z | z
    · omega
    · have := (List.pairwise_cons.mp ih).1 y z
      omega
theorem sorted_le : ∀ (l : List Nat), sortedS (l.map fun c => S [c]) = true → l.Pairwise (· ≤ ·)
  | [], _ => .nil
  | x :: r, h => rising_le r x h
theorem le_lt : ∀ {l : List Nat}, l.Pairwise (· ≤ ·) → l.Nodup → l.Pairwise (· < ·)
  | [], _, _ => .nil
  | a :: l, h, n => by
    rw [List.pairwise_cons] at h ⊢
    rw [List.nodup_cons] at n
    refine ⟨fun b hb => ?_, le_lt h.2 n.2⟩
    have h1 := h.1 b hb
    have h2 : a ≠ b := fun e => n.1 (e ▸ hb)
    omega
/-- what sorted(set(names_in(b))) is -/
theorem sorted_names {b : List Nat} {ys l : List Str} (nd : ys.Nodup) (hm : ∀ x, x ∈ ys ↔ x ∈ l) (hl : ∀ x, x ∈ l ↔ x ∈ (namesIn b).map fun c => S [c]) (hs : sortedS ys = true) : ys = (sortedNames b).map fun c => S [c] := by
  have key : ∀ (ys : List Str), (∀ x ∈ ys, ∃ c, x = S [c]) → ∃ cs : List Nat, ys = cs.map fun c => S [c] := by
    intro ys
    induction ys with
    | nil => intro _; exact ⟨[], rfl⟩
    | cons y r ih =>
      intro h
      obtain ⟨cs, hcs⟩ := ih fun x hx => h x (List.mem_cons_of_mem _ hx)
      obtain ⟨c, hc⟩ := h y List.mem_cons_self
      exact ⟨c :: cs, by rw [hcs, hc]; rfl⟩
  have inj : ∀ a c : Nat, S [a] = S [c] → a = c := fun a c h => by simpa using S_inj.mp h
  obtain ⟨cs, rfl⟩ := key ys fun x hx => by
    obtain ⟨c, _, e⟩ := List.mem_map.mp ((hl x).mp ((hm x).mp hx))
    exact ⟨c, e.symm⟩
  have mem : ∀ c, c ∈ cs ↔ c ∈ sortedNames b := fun c => by
    rw [sortedNames_mem]
    have q := (hm (S [c])).trans (hl (S [c]))
    constructor
    · intro hc
      obtain ⟨d, hd, e⟩ := List.mem_map.mp (q.mp (List.mem_map_of_mem hc))
      rw [← inj _ _ e]; exact hd
    · intro hc
      obtain ⟨d, hd, e⟩ := List.mem_map.mp (q.mpr (List.mem_map_of_mem hc))
      rw [← inj _ _ e]; exact hd
  have nd' : cs.Nodup := List.Pairwise.of_map (f := fun c => S [c]) (S := (· ≠ ·)) (R := (· ≠ ·)) (fun a c h e => h (by rw [e])) nd
  rw [asc_eq (le_lt (sorted_le cs hs) nd') (sortedNames_asc b) mem]
end SF
namespace SF
open PySem PySem.Spec PyProof.Rows L2
/-! ### text[::-1] -/
theorem range_fm (l : List Nat) : (List.range l.length).filterMap (l.toArray[·]?) = l := by
  have key : ∀ k, k ≤ l.length → (List.range k).filterMap (l.toArray[·]?) = l.take k := by
    intro k
    induction k with
    | zero => intro _; rfl
    | succ k ih =>
      intro hk
      rw [List.range_succ, List.filterMap_append, ih (by omega), take_more (List.getElem?_eq_getElem (show k < l.length by omega))]
      congr 1
      simp [show k < l.length by omega]
  have := key l.length (Nat.le_refl _)
  rwa [List.take_length] at this
theorem rev_ix (n : Nat) : Builtin.Str.strSliceIndices none none (-1) n = (List.range n).reverse := by
  show sliceRange ((n : Int) - 1) (-1) (-1) = _
  rw [PySem.W.krv_sliceRange, PySem.W.krv_range]
def tRevS (te : TE) : TE := fun σ H Q => te σ H fun x H1 => ∃ l, x = .str (S l) ∧ l.length ≤ sizeLine ∧ Q (.str (S l.reverse)) H1
section
variable {X : Cx}
theorem pe_revS {e : Expr} {te : TE} {k : Nat} {p1 p2 p3 pos : Pos} (he : PE X e te) : PE X (.Subscript e (.Slice none none (some (.UnaryOp .USub (.Constant (.int 1) k p1) p2)) p3) pos) (tRevS te) := by
  refine ⟨fun pins s σ H Q I h => ?_⟩
  refine Subscript_ (thn (he.run pins s σ H _ I h) fun v s1 ⟨x, H1, I1, r1, q1⟩ => ?_)
  obtain ⟨z, ex, hz, q⟩ := q1
  subst ex
  obtain ⟨t, rfl⟩ := r1
  have hst : PO X (some (.UnaryOp .USub (.Constant (.int 1) k p1) p2)) (tPart (tUn (rU fun i => .int (-i)) (tC (.int 1)))) := po_some (pe_un un_neg pe_int)
  refine wpAny_Slice (thn (po_none.run pins s1 σ H1 (fun o H2 => o = none ∧ H2 = H1) I1 ⟨rfl, rfl⟩) fun vl s2 ⟨l, H2, I2, pl, el, e2⟩ => ?_)
  subst el e2
  refine thn (po_none.run pins s2 σ H2 (fun o H3 => o = none ∧ H3 = H2) I2 ⟨rfl, rfl⟩) fun vu s3 ⟨u, H3, I3, pu, eu, e3⟩ => ?_
  subst eu e3
  refine thn (hst.run pins s3 σ H3 (fun o H4 => o = some (-1) ∧ H4 = H3) I3 ⟨1, rfl, -1, rfl, rfl, rfl⟩) fun vs s4 ⟨o, H4, I4, ps, eo, e4⟩ => ?_
  subst eo e4
  have I5 : Inv X pins σ H4 { s4 with heap := s4.heap.push { cls := .type "slice", data := .fields #[vl, vu, vs] } } := I4.kept (t' := s4.toks) fun b ob q => Heap.get?_push_of_some _ q
  obtain ⟨l', rl, el⟩ := IsPart.raw pl
  obtain ⟨u', ru, eu⟩ := IsPart.raw pu
  obtain ⟨st', rs, es⟩ := IsPart.raw ps
  subst rl ru rs
  show wpAny (model X.prog X.w) X.A (subscriptTail e (.Slice none none (some (.UnaryOp .USub (.Constant (.int 1) k p1) p2)) p3) (.str (S z) t) (.ref s4.heap.objs.size)) (EP X pins σ Q) X.xe { s4 with heap := s4.heap.push { cls := .type "slice", data := .fields #[partValue l', partValue u', partValue st'] } }
  refine tail_any (T := "str") (id := "str.__getitem__") (ops := [.str (S z) t, .ref s4.heap.objs.size]) (typeIs_str _ _ _) (PySem.F.slot_str_getitem.lookup) ?_ (by with_unfolding_all rfl)
  have hsl : ({ s4 with heap := s4.heap.push { cls := .type "slice", data := .fields #[partValue l', partValue u', partValue st'] } } : Shared).heap.IsSlice s4.heap.objs.size l' u' st' := ⟨_, Heap.get?_push_size _ rfl, rfl, rfl⟩
  have e1 : (st'.map (·.1)) = some (-1) := es
  have e2 : (l'.map (·.1)) = none := el
  have e3 : (u'.map (·.1)) = none := eu
  refine wpAny_getItem_str_slice hsl (by rw [e1]; rfl) ?_
  unfold sliceMade slicePicked
  rw [e1, e2, e3]
  show Made.post (if ((-1 : Int) == 1 && _) = true then _ else Made.str ⟨((Builtin.Str.strSliceIndices none none (-1) (S z).length).filterMap ((S z).cps[·]?)).toArray⟩) (EP X pins σ Q) _
  rw [show ((-1 : Int) == 1) = false from rfl, Bool.false_and, if_neg Bool.false_ne_true, rev_ix, S_len, List.filterMap_reverse, range_fm]
  exact ⟨by rw [show (⟨z.reverse.toArray⟩ : Str) = S z.reverse from rfl, S_len, List.length_reverse]; exact hz, .str (S z.reverse), H4, I5.tok _, ⟨_, rfl⟩, q⟩
end
/-! ### everything new is frozen -/
def allF (F H H' : Hp) : Hp := fun b => if H b = none then H' b else F b
theorem Ext.all {F H H' : Hp} (s : Same F H) (h : Same H H') : Ext F H (allF F H H') H' where
  hh := h
  ff := fun b u q => by
    unfold allF
    rw [if_neg (by rw [s b u q]; simp)]
    exact q
  fh := fun b u q => by
    unfold allF at q
    by_cases c : H b = none
    · rw [if_pos c] at q; exact q
    · rw [if_neg c] at q; exact h b u (s b u q)
  nf := fun b hb hf => by
    unfold allF
    rw [if_neg hb]; exact hf
theorem allF_new {F H H' : Hp} {b : Addr} (h : H b = none) : allF F H H' b = H' b := if_pos h
/-- behind a lock -/
theorem same_unlock {H H' : Hp} {d : Addr} {o : Obj} {u : HO} (h : Same (upd H d (.frz o u)) H') (hd : H d = some u) : Same H (upd H' d u) := fun b q e => by
  by_cases c : b = d
  · subst c; rw [upd_same, ← e, hd]
  · rw [upd_ne c]; exact h b q (by rw [upd_ne c]; exact e)
/-! ### an instance's attributes -/
theorem putF_ne {k f : Str} {x v : V} {l : List (Str × V)} (h : ¬ k = f) : putF f v ((k, x) :: l) = (k, x) :: putF f v l := by
  rw [putF]
  exact if_neg h
theorem putF_eq {f : Str} {x v : V} {l : List (Str × V)} : putF f v ((f, x) :: l) = (f, v) :: l := by
  rw [putF]
  exact if_pos rfl
theorem putF_nil {f : Str} {v : V} : putF f v [] = [(f, v)] := rfl
theorem look_eq {f : Str} {x : V} {l : List (Str × V)} : List.lookup f ((f, x) :: l) = some x := by
  rw [List.lookup_cons, beq_self_eq_true]
theorem look_ne {f k : Str} {x : V} {l : List (Str × V)} (h : ¬ f = k) : List.lookup f ((k, x) :: l) = List.lookup f l := by
  rw [List.lookup_cons, beq_eq_false_iff_ne.mpr h]
theorem look_nil {f : Str} : List.lookup f ([] : List (Str × V)) = none := rfl
/-! ### dict comprehensions over any walk -/
section
variable {J : It} {n : Nat} {G : Hp → Prop} {Y : Nat → Hp → V → Hp → Prop}
theorem dc_it (w : Walk J n G Y) {g : TG} {tt : TT} {tk tv : TE} {vs : List Nat} {σ : L2.St} {H1 : Hp} {D : Addr} {Qd : Hp → Prop} (Pv : Nat → Hp → Prop) (h0 : Pv 0 (upd H1 D (.dK []))) (hG : ∀ i H, i ≤ n → Pv i H → G H)
    (hs : ∀ i x H H', i < n → Pv i H → Y i H x H' → g x (wipe σ vs) H' fun σ2 H2 => wipe σ2 vs = wipe σ vs ∧ tt σ2 H2 fun b H3 =>
      if b = true then tk σ2 H3 fun y H4 => tv σ2 H4 fun z H5 => ∃ kvs k, y = kV k ∧ H5 D = some (.dK kvs) ∧ kvs.length < sizeLine ∧ Pv (i + 1) (upd H5 D (.dK (putK kvs k z))) else Pv (i + 1) H3) (hd : ∀ H, Pv n H → Qd H) :
    ∃ W : Nat → Nat → Hp → Prop, (∃ m, W 0 m (upd H1 D (.dK []))) ∧ ∀ i m H, W i m H →
      (J.stop i H ∧ Qd H) ∨ (J.go i H ∧ ∃ Nx : Hp → Prop, (∀ H', Nx H' → ∃ m', m' < m ∧ W (i + 1) m' H') ∧ ∀ x H', J.yld i H x H' → g x (wipe σ vs) H' fun σ2 H2 => wipe σ2 vs = wipe σ vs ∧ tt σ2 H2 fun b H3 =>
        if b = true then tk σ2 H3 fun y H4 => tv σ2 H4 fun z H5 => ∃ kvs k, y = kV k ∧ H5 D = some (.dK kvs) ∧ kvs.length < sizeLine ∧ Nx (upd H5 D (.dK (putK kvs k z))) else Nx H3) := by
  refine ⟨fun i m H => m = n - i ∧ i ≤ n ∧ Pv i H, ⟨n, by simp, Nat.zero_le _, h0⟩, ?_⟩
  rintro i m H ⟨rfl, hi, p⟩
  have q := hG i H hi p
  by_cases hlt : i < n
  · exact .inr ⟨w.goes i H hlt q, Pv (i + 1), fun H' p' => ⟨n - (i + 1), by omega, rfl, hlt, p'⟩, fun x H' y => hs i x H H' hlt p (w.yields i H x H' hlt q y)⟩
  · have e : i = n := by omega
    subst e
    exact .inl ⟨w.stops H q, hd H p⟩
end
section
variable {X : Cx}
theorem sw_trueD {kx vx : Expr} {gs : List Comprehension} {scope : Scope} {pos py : Pos} {y : Str} {l : Nat} {env : Env} (hk : env.scope.kind = .function) (hy : env.scope.names.lookup y = some .local) (hl : (py.line == pos.line) = true)
    (ha : (scope.names.any fun (n, k) => n == y && (k == .local || k == .cell)) = false) : swapsWith (.DictComp kx vx gs scope pos) (some (.Name y py)) l env = pure true := by
  have ky : env.kindOf y = some .local := hy
  have hb : env.blockKind = .function := by unfold Env.blockKind; rw [hk]; rfl
  unfold swapsWith
  simp only [hb, ky, ha, Expr.pos, hl]
  rfl
theorem ps_setDc {i : Nat} {y : Str} {py : Pos} {kx vx tg iter : Expr} {ifs : List Expr} {scope : Scope} {own : List (Str × Nat)} {pos spos : Pos} {wi : TI} {g : TG} {tt : TT} {tk tv : TE} (hc : X.calm = true) (hN : X.N.Nodup) (hy : X.N[i]? = some y) (hyl : X.env.scope.names.lookup y = some .local)
    (hsw : swapsWith (.DictComp kx vx [⟨tg, iter, ifs, 0⟩] scope pos) (some (.Name y py)) spos.line X.env = pure true) (hi : PI X tg iter wi) (ok : BlkOk X.N X.env.scope scope own)
    (hg : ∀ (s : Shared) (H : Hp) (C : Addr) (cl : List (Str × Addr)) (fp : List Addr), PG (X.blk s H scope (compEnvC scope cl C X.env) fp) tg g) (ht : ∀ (s : Shared) (H : Hp) (C : Addr) (cl : List (Str × Addr)) (fp : List Addr), PTs (X.blk s H scope (compEnvC scope cl C X.env) fp) ifs tt)
    (hk : ∀ (s : Shared) (H : Hp) (C : Addr) (cl : List (Str × Addr)) (fp : List Addr), PE (X.blk s H scope (compEnvC scope cl C X.env) fp) kx tk)
    (he : ∀ (s : Shared) (H : Hp) (C : Addr) (cl : List (Str × Addr)) (fp : List Addr), PE (X.blk s H scope (compEnvC scope cl C X.env) fp) vx tv) (hs : ∀ x, foldedSetIterable iter X.env x = pure x := by intro _; rfl) :
    PS X (.Assign [.Name y py] (.DictComp kx vx [⟨tg, iter, ifs, 0⟩] scope pos) spos) (tAsg (tDc wi g tt tk tv (own.map (·.2))) (gName i)) := by
  refine ⟨fun pins s σ H D I h => ?_⟩
  rw [exec_Assign_Name_used _ _ _ _ hsw]
  refine wpAny_bind (wpAny_standAt (wpAny_bind ?_))
  show wpAny _ X.A (do let _ ← comprehension (.DictComp kx vx [⟨tg, iter, ifs, 0⟩] scope pos) scope X.env (firstIterPos [⟨tg, iter, ifs, 0⟩] pos) newDict false (eval iter X.env) (some (assign (.Name y py) X.env))) _ _ s
  have h : tDc wi g tt tk tv (own.map (·.2)) σ H (fun x H1 => gName i x σ H1 D.nx) := h
  refine wpAny_bind (thn (dc_core (Qf := fun _ s' => SP X pins D .next s') hc hN I hi ok hg ht hk he hs h fun L C s' m H' I' q hn f => ?_) fun _ s' hq => wpAny_pure (wpAny_pure hq))
  show wpAny _ _ (assign (.Name y py) X.env (.ref L)) _ _ _
  refine wpAny_assign_Name (store_ok2 (v := V.ref L) I' hN hy (.inl hyl) rfl (fun s2 I2 ⟨a, sb, ha⟩ => ?_) (.inr hyl))
  obtain ⟨f0, f1, f2, f3, f4, f5⟩ := f
  have haC : C ≠ a := by
    rcases ha with z | z
    · rw [z]; exact f1
    · exact fun e => f4 y a z e.symm
  refine ⟨m, hn.sameBut sb haC, fun h3 sb3 => ?_⟩
  exact ⟨_, H', I2.turned (t' := s2.toks) (fun b o hb e => (sb3.2 b hb).trans e) f0 f1 f3 f4 f5, q⟩
end
section
variable {X : Cx} {K : PySem.W.Frag}
theorem isiK (h : X.K = K := by rfl) : CallR X (.builtin "isinstance") (rIsi K) := by subst h; exact call_isi
theorem pe_cvalK {e : Expr} {ta : TE} {f : Str} {pos : Pos} (he : PE X e ta) (hb : attributeBase e f X.env (eval e X.env) = eval e X.env := by rfl) (h : X.K = K := by rfl) : PE X (.Attribute e f pos) (ClX.tCVal K ta f) := by subst h; exact ClX.pe_cval he hb
end
end SF
namespace SF
abbrev Pair := List Nat × List Nat
structure Tab where
  pairs : List Pair
  numbers : List Nat
  vanishing : List (Nat × Bool)
  byName : List (List Nat × List Nat)
def headAt (pairs : List Pair) (n : Nat) : List Nat := (pairs[n]?.map (·.1)).getD []
def bnStep (pairs : List Pair) (m : List (List Nat × List Nat)) (n : Nat) : List (List Nat × List Nat) := aPut m (headAt pairs n) ((aGet m (headAt pairs n)).getD [] ++ [n])
def mkByName (pairs : List Pair) (numbers : List Nat) : List (List Nat × List Nat) := numbers.foldl (bnStep pairs) []
def mkTab (pairs : List Pair) (numbers : List Nat) (van : List (Nat × Bool)) : Tab := ⟨pairs, numbers, van, mkByName pairs numbers⟩
structure Gram where
  rules : List Rule
  root : Nat
namespace Gram
variable (g : Gram)
def lens : List (Nat × Nat) := leastLengths g.rules
def useful : List Nat := usefulNumbers g.rules g.root g.lens
def best : Best := leastDerivations g.rules g.useful g.lens
def van : List (Nat × Bool) := ((g.best.map (·.1)).filter fun c => decide ((aGet g.lens c).getD 0 = 0)).map fun c => (c, true)
def pairs : List Pair := (g.rules.map fun r => ([r.1], r.2)) ++ [([60, 62], [60, g.root, 62])]
def numbers : List Nat := g.useful ++ [g.rules.length]
def fwd : Tab := mkTab g.pairs g.numbers g.van
def bwd : Tab := mkTab (g.pairs.map fun p => (p.1, p.2.reverse)) g.numbers g.van
/-- a grammar that is let -/
structure Ok : Prop where
  few : 1 ≤ g.rules.length ∧ g.rules.length ≤ 16
  rok : RulesOk g.rules
  here : g.root ∈ g.rules.map (·.1)
  ends : (aGet g.lens g.root).isSome = true
  some_ : g.useful ≠ []
  short : ∀ n ∈ g.useful, ∀ r, g.rules[n]? = some r → (aGet g.lens r.1).getD 0 ≤ 24
  bne : g.best ≠ []
  fast : ∀ c t, aGet g.best c = some t → t.a ≤ 100
end Gram
end SF
namespace SF
open PySem PySem.Spec PyProof.Rows L2
def encS (l : List Nat) : Key := Sum.inr (S l)
theorem encS_inj (a b : List Nat) (h : encS a = encS b) : a = b := S_inj.mp (Sum.inr.inj h)
/-- a list of numbers that may still change, made since H2 -/
def rML (H2 : Hp) : Rl (List Nat) := fun H v x => ∃ l, v = .ref l ∧ H l = some (.lst (x.map vn)) ∧ H2 l = none
instance {H2 : Hp} : Mono (rML H2) := ⟨fun s h => by
  obtain ⟨l, e, h1, h2⟩ := h
  exact ⟨l, e, s _ _ h1, h2⟩⟩
theorem valV_mem {κ : Type} [DecidableEq κ] {k : κ} {v : V} : ∀ {kvs : List (κ × V)}, valV kvs k = some v → v ∈ kvs.map (·.2)
  | [], h => by cases h
  | p :: r, h => by
    by_cases e : p.1 = k
    · rw [valV_pos e] at h
      cases h
      exact List.mem_cons_self
    · rw [valV_neg e] at h
      exact List.mem_cons_of_mem _ (valV_mem h)
theorem rML.upd {H2 H : Hp} {v : V} {x : List Nat} {q : Addr} {o : HO} (h : rML H2 H v x) (hq : v ≠ .ref q) : rML H2 (upd H q o) v x := by
  obtain ⟨l, rfl, h1, h2⟩ := h
  exact ⟨l, rfl, by rw [upd_ne (fun e => hq (by rw [e]))]; exact h1, h2⟩
theorem AD.updM {H2 H : Hp} {q : Addr} {o : HO} : ∀ {kvs : List (Key × V)} {m : List (List Nat × List Nat)}, AD encS (rML H2) H kvs m → .ref q ∉ kvs.map (·.2) → AD encS (rML H2) (upd H q o) kvs m
  | _, _, .nil, _ => .nil
  | _, _, .cons h t, hq => .cons ⟨h.1, h.2.upd (fun e => hq (by rw [List.map_cons, e]; exact List.mem_cons_self))⟩ (AD.updM t fun z => hq (List.mem_cons_of_mem _ z))
/-- an address that holds no list of the dict -/
theorem AD.notin {H2 H : Hp} {q : Addr} {o : HO} (hq : H q = some o) (ho : ∀ xs, o ≠ .lst xs) : ∀ {kvs : List (Key × V)} {m : List (List Nat × List Nat)}, AD encS (rML H2) H kvs m → .ref q ∉ kvs.map (·.2)
  | _, _, .nil => by simp
  | _, _, .cons h t => by
    intro z
    rw [List.map_cons] at z
    rcases List.mem_cons.mp z with z | z
    · obtain ⟨l, e, h1, _⟩ := h.2
      rw [e] at z
      cases z
      rw [hq] at h1
      exact ho _ (Option.some.inj h1)
    · exact AD.notin hq ho t z
theorem AD.notin0 {H2 H : Hp} {q : Addr} (hq : H q = none) : ∀ {kvs : List (Key × V)} {m : List (List Nat × List Nat)}, AD encS (rML H2) H kvs m → .ref q ∉ kvs.map (·.2)
  | _, _, .nil => by simp
  | _, _, .cons h t => by
    intro z
    rw [List.map_cons] at z
    rcases List.mem_cons.mp z with z | z
    · obtain ⟨l, e, h1, _⟩ := h.2
      rw [e] at z
      cases z
      rw [hq] at h1
      cases h1
    · exact AD.notin0 hq t z
/-- one of the lists changes -/
theorem AD.chg {H2 H : Hp} {k y : List Nat} {l : Addr} (hl2 : H2 l = none) : ∀ {kvs : List (Key × V)} {m : List (List Nat × List Nat)}, AD encS (rML H2) H kvs m → (kvs.map (·.2)).Nodup → (m.map (·.1)).Nodup → valV kvs (encS k) = some (.ref l) →
    AD encS (rML H2) (upd H l (.lst (y.map vn))) kvs (aPut m k y)
  | _, _, .nil, _, _, hv => by cases hv
  | _, _, .cons (l₁ := kvs) (l₂ := m) (a := kv) (b := x0) h t, nd, kn, hv => by
    rw [List.map_cons, List.nodup_cons] at nd kn
    by_cases e : x0.1 = k
    · have e1 : kv.1 = encS k := by rw [h.1, e]
      rw [valV_pos e1] at hv
      have hv' := Option.some.inj hv
      have hput : aPut (x0 :: m) k y = (x0.1, y) :: m := by
        unfold aPut
        rw [List.any_cons, decide_eq_true e, Bool.true_or, if_pos rfl, List.map_cons, if_pos e]
        congr 1
        have key : ∀ m : List (List Nat × List Nat), k ∉ m.map (·.1) → (m.map fun p => if p.1 = k then (p.1, y) else p) = m := by
          intro m
          induction m with
          | nil => intro _; rfl
          | cons p r ih =>
            intro hk
            rw [List.map_cons] at hk
            rw [List.map_cons, if_neg (fun z => hk (by rw [z]; exact List.mem_cons_self)), ih (fun z => hk (List.mem_cons_of_mem _ z))]
        exact key m (by rw [← e]; exact kn.1)
      rw [hput]
      refine .cons ⟨h.1, l, hv', upd_same, hl2⟩ (AD.updM t ?_)
      rw [← hv']
      exact nd.1
    · have e1 : ¬ kv.1 = encS k := fun z => e (encS_inj _ _ (h.1.symm.trans z))
      rw [valV_neg e1] at hv
      have hne : kv.2 ≠ .ref l := fun z => nd.1 (by rw [z]; exact valV_mem hv)
      have ih := AD.chg hl2 t nd.2 kn.2 hv (y := y)
      have hput : aPut (x0 :: m) k y = x0 :: aPut m k y := by
        unfold aPut
        rw [List.any_cons, decide_eq_false e, Bool.false_or]
        split
        · rw [List.map_cons, if_neg e]
        · rfl
      rw [hput]
      exact .cons ⟨h.1, h.2.upd hne⟩ ih
/-- frozen at the end -/
theorem AD.fin {F H2 H : Hp} : ∀ {kvs : List (Key × V)} {m : List (List Nat × List Nat)}, AD encS (rML H2) H kvs m → AD encS (rL rNat) (allF F H2 H) kvs m
  | _, _, .nil => .nil
  | _, _, .cons h t => by
    obtain ⟨h0, l, e, h1, h2⟩ := h
    refine .cons ⟨h0, l, _, e, (allF_new h2).trans h1, ?_⟩ (AD.fin t)
    have key : ∀ xs : List Nat, Al rNat (allF F H2 H) (xs.map vn) xs := by
      intro xs
      induction xs with
      | nil => exact .nil
      | cons a r ih => exact .cons rfl ih
    exact key _
theorem aPut_put {κ α : Type} [DecidableEq κ] (m : List (κ × α)) (k : κ) (x y : α) : aPut (aPut m k x) k y = aPut m k y := by
  have h1 : ((aPut m k x).any fun p => decide (p.1 = k)) = true := by
    rw [aGet_any, aGet_put, if_pos rfl]; rfl
  have key : ∀ (m : List (κ × α)), ((m.map fun p => if p.1 = k then (p.1, x) else p).map fun p => if p.1 = k then (p.1, y) else p) = m.map fun p => if p.1 = k then (p.1, y) else p := by
    intro m
    rw [List.map_map]
    apply List.map_congr_left
    intro p _
    show (if (if p.1 = k then (p.1, x) else p).1 = k then _ else _) = _
    by_cases e : p.1 = k
    · rw [if_pos e]; simp [e]
    · rw [if_neg e, if_neg e, if_neg e]
  rw [aPut, if_pos h1]
  unfold aPut
  by_cases h : (m.any fun p => decide (p.1 = k)) = true
  · rw [if_pos h, if_pos h, key]
  · rw [if_neg h, if_neg h, List.map_append]
    have key2 : ∀ (m : List (κ × α)), (m.any fun p => decide (p.1 = k)) = false → (m.map fun p => if p.1 = k then (p.1, y) else p) = m := by
      intro m
      induction m with
      | nil => intro _; rfl
      | cons p r ih =>
        intro hh
        rw [List.any_cons, Bool.or_eq_false_iff] at hh
        rw [List.map_cons, if_neg (of_decide_eq_false hh.1), ih hh.2]
    rw [key2 m (Bool.eq_false_iff.mpr h)]
    simp
/-! ### tables -/
def rTab (C : Addr) : Rl Tab := fun F v t => ∃ p dx pa na va ba, v = .ref p ∧ F p = some (.ins C dx [("pairs", .ref pa), ("numbers", .ref na), ("vanishing", .ref va), ("by_name", .ref ba)]) ∧
  rL (rP rS rS) F (.ref pa) t.pairs ∧ rL rNat F (.ref na) t.numbers ∧ rD encN rB F (.ref va) t.vanishing ∧ rD encS (rL rNat) F (.ref ba) t.byName
instance {C : Addr} : Mono (rTab C) := ⟨fun s h => by
  obtain ⟨p, dx, pa, na, va, ba, e, h0, h1, h2, h3, h4⟩ := h
  exact ⟨p, dx, pa, na, va, ba, e, s _ _ h0, Mono.mono s h1, Mono.mono s h2, Mono.mono s h3, Mono.mono s h4⟩⟩
theorem aPut_new {κ α : Type} [DecidableEq κ] {m : List (κ × α)} {k : κ} {x : α} (h : aGet m k = none) : aPut m k x = m ++ [(k, x)] := by
  unfold aPut
  rw [aGet_any, h]
  rfl
theorem nodup_take {α : Type} {l : List α} {i : Nat} {x : α} (h : l.Nodup) (hx : l[i]? = some x) : x ∉ l.take i := by
  intro hm
  have h2 : (l.take i ++ l.drop i).Nodup := by rw [List.take_append_drop]; exact h
  rw [List.nodup_append] at h2
  exact h2.2.2 x hm x (List.mem_iff_getElem?.mpr ⟨0, by rw [List.getElem?_drop]; exact hx⟩) rfl
theorem al_pairs {F : Hp} : ∀ {vs : List V} {rules : List Rule}, Al rRule F vs rules → Al (rP rS rS) F vs (rules.map fun r => ([r.1], r.2))
  | _, _, .nil => .nil
  | _, _, .cons h t => .cons h (al_pairs t)
theorem S_lt : (Str.ofString "<") = S [60] := by decide
theorem S_gt : (Str.ofString ">") = S [62] := by decide
theorem S_ltgt : (Str.ofString "<>") = S [60, 62] := by decide
theorem al_nats {F : Hp} : ∀ xs : List Nat, Al rNat F (xs.map vn) xs
  | [] => .nil
  | _ :: r => .cons rfl (al_nats r)
theorem al_cs {F : Hp} : ∀ xs : List Nat, Al rC F (xs.map vc) xs
  | [] => .nil
  | _ :: r => .cons rfl (al_cs r)
end SF
namespace SF
section
variable {α β : Type} {f : β × Bool → α → β × Bool}
theorem fold_quiet (hq : ∀ st x, (f st x).2 = false → f st x = st) : ∀ {l : List α} {st : β × Bool}, (l.foldl f st).2 = false → l.foldl f st = st ∧ ∀ x ∈ l, f st x = st
  | [], st, _ => ⟨rfl, fun x hx => by cases hx⟩
  | a :: l, st, h => by
    rw [List.foldl_cons] at h ⊢
    obtain ⟨h1, h2⟩ := fold_quiet hq h
    rw [h1] at h ⊢
    have h3 := hq st a h
    rw [h3] at h2
    refine ⟨h3, fun x hx => ?_⟩
    rcases List.mem_cons.mp hx with rfl | hx
    · exact h3
    · exact h2 x hx
end
theorem rounds_fix {α : Type} {f : α → α × Bool} (P : α → Prop) (μ : α → Nat) (h : ∀ m, P m → P (f m).1 ∧ ((f m).2 = true → μ (f m).1 < μ m) ∧ ((f m).2 = false → (f m).1 = m)) :
    ∀ (n : Nat) (m : α), P m → μ m < n → P (rounds f n m) ∧ (f (rounds f n m)).2 = false
  | 0, m, _, hm => absurd hm (Nat.not_lt_zero _)
  | n + 1, m, hp, hm => by
    obtain ⟨h1, h2, h3⟩ := h m hp
    unfold rounds
    cases hb : (f m).2 with
    | true =>
      rw [if_pos rfl]
      have := h2 hb
      exact rounds_fix P μ h n (f m).1 h1 (by omega)
    | false =>
      rw [if_neg Bool.false_ne_true, h3 hb]
      exact ⟨hp, hb⟩
theorem llStep_quiet (st : List (Nat × Nat) × Bool) (r : Rule) (h : (llStep st r).2 = false) : llStep st r = st := by
  unfold llStep at h ⊢
  split
  · split
    · rename_i h1 h2
      rw [if_pos h1, if_pos h2] at h
      cases h
    · rfl
  · rfl
section
variable {rules : List Rule}
theorem ll_fin (hr : RulesOk rules) : LLok (leastLengths rules) ∧ (llRound rules (leastLengths rules)).2 = false := by
  refine rounds_fix (f := llRound rules) LLok mu (fun m hm => ?_) llFuel [] LLok.nil (Nat.lt_succ_self _)
  obtain ⟨h1, h2, h3, h4⟩ := llFold (rules := rules) (m, false) (fun r hx => ⟨(hr r hx).1, (hr r hx).2.1⟩) hm
  exact ⟨h1, h3 rfl, fun h => by rw [show llRound rules m = _ from h4 h]⟩
/-- every rule whose names have lengths has a length no greater than its total -/
theorem ll_fix (hr : RulesOk rules) {r : Rule} (hm : r ∈ rules) (ha : allIn (leastLengths rules) r.2 = true) : ∃ x, aGet (leastLengths rules) r.1 = some x ∧ x ≤ total (leastLengths rules) r.2 := by
  obtain ⟨_, h2⟩ := ll_fin hr
  have := (fold_quiet llStep_quiet h2).2 r hm
  unfold llStep at this
  rw [show allIn (leastLengths rules, false).1 r.2 = true from ha, if_pos rfl] at this
  cases hb : better (leastLengths rules) r with
  | true =>
    rw [show better (leastLengths rules, false).1 r = true from hb, if_pos rfl] at this
    have := congrArg Prod.snd this
    cases this
  | false =>
    unfold better at hb
    cases q : aGet (leastLengths rules) r.1 with
    | none => rw [q] at hb; cases hb
    | some x =>
      rw [q] at hb
      have := of_decide_eq_false hb
      exact ⟨x, rfl, by omega⟩
theorem useful_mem {root n : Nat} {lens : List (Nat × Nat)} : n ∈ usefulNumbers rules root lens ↔ ∃ r, rules[n]? = some r ∧ usefulAt (reached rules root lens) lens r = true := by
  unfold usefulNumbers
  rw [List.mem_map]
  constructor
  · rintro ⟨⟨r, m⟩, h1, rfl⟩
    rw [List.mem_filter] at h1
    obtain ⟨h1, h2⟩ := h1
    rw [List.mem_iff_getElem?] at h1
    obtain ⟨i, h1⟩ := h1
    rw [List.getElem?_zipIdx] at h1
    cases q : rules[i]? with
    | none => rw [q] at h1; cases h1
    | some x =>
      rw [q] at h1
      have e := Option.some.inj h1
      simp at e
      obtain ⟨rfl, rfl⟩ := e
      exact ⟨x, q, h2⟩
  · rintro ⟨r, h1, h2⟩
    refine ⟨(r, n), List.mem_filter.mpr ⟨?_, h2⟩, rfl⟩
    rw [List.mem_iff_getElem?]
    exact ⟨n, by rw [List.getElem?_zipIdx, h1]; simp⟩
theorem useful_len {root : Nat} {lens : List (Nat × Nat)} : (usefulNumbers rules root lens).length ≤ rules.length := by
  unfold usefulNumbers
  rw [List.length_map]
  have := List.length_filter_le (fun p : Rule × Nat => usefulAt (reached rules root lens) lens p.1) rules.zipIdx
  rw [List.length_zipIdx] at this
  exact this
end
namespace Gram.Ok
variable {g : Gram}
theorem rule (h : g.Ok) {n : Nat} (hn : n ∈ g.useful) : ∃ r, g.rules[n]? = some r ∧ RuOk g.lens r := by
  obtain ⟨r, h1, h2⟩ := useful_mem.mp hn
  have hm := List.mem_of_getElem? h1
  obtain ⟨a, b, c⟩ := h.rok r hm
  unfold usefulAt at h2
  rw [Bool.and_eq_true] at h2
  obtain ⟨x, hx, _⟩ := ll_fix h.rok hm h2.2
  exact ⟨r, h1, a, b, c, h2.2, by show (aGet (leastLengths g.rules) r.1).isSome = true; rw [hx]; rfl, h.short n hn r h1⟩
theorem bestOk (h : g.Ok) : LDok g.lens g.best := by
  have := (rounds_fix (f := ldRound g.rules g.lens g.useful) (LDok g.lens) muD (fun m hm => ?_) ldFuel [] (LDok.nil _) (Nat.lt_succ_self _)).1
  · exact this
  · obtain ⟨h1, h2, h3, h4⟩ := ldFold (rules := g.rules) (lens := g.lens) (numbers := g.useful) (m, false) (fun n hn => h.rule hn) hm
    exact ⟨h1, h3 rfl, fun q => by rw [show ldRound g.rules g.lens g.useful m = _ from h4 q]⟩
end Gram.Ok
end SF
namespace SF
/-- the body derives the string of signs -/
inductive DerW (rules : List Rule) : List Nat → List Nat → Prop
  | nil : DerW rules [] []
  | sign {c b w} : nam c = false → DerW rules b w → DerW rules (c :: b) (c :: w)
  | name {r b w1 w2} : r ∈ rules → nam r.1 = true → DerW rules r.2 w1 → DerW rules b w2 → DerW rules (r.1 :: b) (w1 ++ w2)
section
variable {rules : List Rule}
theorem DerW.app : ∀ {a w : List Nat}, DerW rules a w → ∀ {b w2 : List Nat}, DerW rules b w2 → DerW rules (a ++ b) (w ++ w2) := by
  intro a w h
  induction h with
  | nil => intro b w2 h2; exact h2
  | sign hc _ ih => intro b w2 h2; exact .sign hc (ih h2)
  | name hr hn h1 _ _ ih2 =>
    intro b w2 h2
    rw [List.append_assoc]
    exact .name hr hn h1 (ih2 h2)
/-- lengths that derivations have -/
def LSound (rules : List Rule) (m : List (Nat × Nat)) : Prop := ∀ c x, aGet m c = some x → ∃ w, DerW rules [c] w ∧ w.length = x
theorem LSound.body {m : List (Nat × Nat)} (h : LSound rules m) : ∀ {b : List Nat}, allIn m b = true → ∃ w, DerW rules b w ∧ w.length = total m b
  | [], _ => ⟨[], .nil, rfl⟩
  | c :: b, hb => by
    obtain ⟨h1, h2⟩ := allIn_cons.mp hb
    obtain ⟨w, d, e⟩ := LSound.body h h2
    rw [total_cons]
    by_cases hn : nam c = true
    · rw [if_pos hn]
      cases q : aGet m c with
      | none => have := h1 hn; rw [q] at this; cases this
      | some x =>
        obtain ⟨w1, d1, e1⟩ := h c x q
        refine ⟨w1 ++ w, d1.app d, ?_⟩
        rw [List.length_append, e1, e]
        rfl
    · rw [if_neg hn]
      refine ⟨c :: w, .sign (by simpa using hn) d, ?_⟩
      rw [List.length_cons, e, Nat.add_comm]
theorem ll_sound (hr : RulesOk rules) : LSound rules (leastLengths rules) := by
  have key : ∀ (l : List Rule) (st : List (Nat × Nat) × Bool), (∀ r ∈ l, r ∈ rules) → LSound rules st.1 → LSound rules (l.foldl llStep st).1 := by
    intro l
    induction l with
    | nil => intro st _ h; exact h
    | cons r l ih =>
      intro st hl h
      rw [List.foldl_cons]
      refine ih _ (fun x hx => hl x (List.mem_cons_of_mem _ hx)) ?_
      unfold llStep
      split
      · rename_i ha
        split
        · intro c x hx
          rw [aGet_put] at hx
          split at hx
          · rename_i e
            subst e
            cases hx
            obtain ⟨w, d, e⟩ := h.body ha
            have hm := hl r List.mem_cons_self
            refine ⟨w ++ [], .name hm (hr r hm).1 d .nil, by rw [List.append_nil]; exact e⟩
          · exact h c x hx
        · exact h
      · exact h
  have key2 : ∀ (n : Nat) (m : List (Nat × Nat)), LSound rules m → LSound rules (rounds (llRound rules) n m) := by
    intro n
    induction n with
    | zero => intro m h; exact h
    | succ n ih =>
      intro m h
      have h2 : LSound rules (llRound rules m).1 := key rules (m, false) (fun _ h => h) h
      unfold rounds
      split
      · exact ih _ h2
      · exact h2
  exact key2 _ _ (fun c x h => by cases h)
theorem ll_least (hr : RulesOk rules) : ∀ {b w : List Nat}, DerW rules b w → allIn (leastLengths rules) b = true ∧ total (leastLengths rules) b ≤ w.length := by
  intro b w h
  induction h with
  | nil => exact ⟨rfl, Nat.le_refl _⟩
  | sign hc _ ih =>
    refine ⟨allIn_cons.mpr ⟨fun z => (by rw [hc] at z; cases z), ih.1⟩, ?_⟩
    rw [total_cons, if_neg (by rw [hc]; exact Bool.false_ne_true), List.length_cons]
    have := ih.2
    omega
  | name hm hn _ _ ih1 ih2 =>
    obtain ⟨x, hx, hle⟩ := ll_fix hr hm ih1.1
    refine ⟨allIn_cons.mpr ⟨fun _ => by rw [hx]; rfl, ih2.1⟩, ?_⟩
    rw [total_cons, if_pos hn, hx, List.length_append]
    have h1 := ih1.2
    have h2 := ih2.2
    show x + _ ≤ _
    omega
/-! ### the reached names are closed -/
section
variable {α : Type} {lens : List (Nat × α)}
def ClosedAt (rules : List Rule) (lens : List (Nat × α)) (re : List Nat) (c : Nat) : Prop := ∀ r ∈ rules, r.1 = c → allIn lens r.2 = true → ∀ x ∈ namesIn r.2, x ∈ re
theorem uFold_closed {c : Nat} : ∀ {l : List Rule} {re : List Nat}, ∀ r ∈ l, r.1 = c → allIn lens r.2 = true → ∀ x ∈ namesIn r.2, x ∈ l.foldl (uStep lens c) re
  | [], _, r, hr, _, _, _, _ => by cases hr
  | a :: l, re, r, hr, hc, ha, x, hx => by
    rw [List.foldl_cons]
    rcases List.mem_cons.mp hr with rfl | hr
    · have h1 : x ∈ uStep lens c re r := by
        unfold uStep
        rw [if_pos ⟨hc, ha⟩]
        by_cases h : x ∈ re
        · exact List.mem_append_left _ h
        · exact List.mem_append_right _ (List.mem_filter.mpr ⟨sortedNames_mem.mpr hx, by simp [h]⟩)
      exact (uFold_pre (lens := lens) (c := c) (rules := l) (re := uStep lens c re r)).subset h1
    · exact uFold_closed r hr hc ha x hx
theorem ureach_ok : ∀ (n : Nat) (re : List Nat) (i : Nat), NmOk re → 27 ≤ n + i → (∀ j c, j < i → re[j]? = some c → ClosedAt rules lens re c) → re <+: ureach rules lens n re i ∧ NmOk (ureach rules lens n re i) ∧ ∀ c ∈ ureach rules lens n re i, ClosedAt rules lens (ureach rules lens n re i) c
  | 0, re, i, hn, hi, hc => by
    refine ⟨List.prefix_refl _, hn, fun c hm => ?_⟩
    obtain ⟨j, hj⟩ := List.mem_iff_getElem?.mp hm
    have h1 := hn.few
    have h2 : j < re.length := (List.getElem?_eq_some_iff.mp hj).1
    exact hc j c (by omega) hj
  | n + 1, re, i, hn, hi, hc => by
    cases q : re[i]? with
    | none =>
      rw [ureach_none q]
      refine ⟨List.prefix_refl _, hn, fun c hm => ?_⟩
      obtain ⟨j, hj⟩ := List.mem_iff_getElem?.mp hm
      have h2 := (List.getElem?_eq_some_iff.mp hj).1
      have h3 := List.getElem?_eq_none_iff.mp q
      exact hc j c (by omega) hj
    | some c =>
      rw [ureach_some q]
      have hpre := uFold_pre (lens := lens) (c := c) (rules := rules) (re := re)
      have hlt := (List.getElem?_eq_some_iff.mp q).1
      have ih := ureach_ok n (rules.foldl (uStep lens c) re) (i + 1) (uFold_ok hn) (by omega) (fun j d hj hd r hr hrd ha x hx => by
        have hjl : j < re.length := by omega
        have hd' : re[j]? = some d := by
          obtain ⟨t, ht⟩ := hpre
          rw [← ht, List.getElem?_append_left hjl] at hd
          exact hd
        by_cases e : j = i
        · subst e
          rw [q] at hd'
          cases hd'
          exact uFold_closed r hr hrd ha x hx
        · exact hpre.subset (hc j d (by omega) hd' r hr hrd ha x hx))
      exact ⟨hpre.trans ih.1, ih.2⟩
theorem reached_ok {root : Nat} (hroot : nam root = true) : root ∈ reached rules root lens ∧ NmOk (reached rules root lens) ∧ ∀ c ∈ reached rules root lens, ClosedAt rules lens (reached rules root lens) c := by
  have h := ureach_ok (rules := rules) (lens := lens) 27 [root] 0 ⟨by simp, by simpa using hroot⟩ (by omega) (fun j c hj => absurd hj (Nat.not_lt_zero _))
  exact ⟨h.1.subset (by simp), h.2.1, h.2.2⟩
end
end
theorem ldStep_quiet {rules : List Rule} {lens : List (Nat × Nat)} (st : Best × Bool) (n : Nat) (h : (ldStep rules lens st n).2 = false) : ldStep rules lens st n = st := by
  unfold ldStep at h ⊢
  split
  · rfl
  · rename_i r e
    rw [e] at h
    dsimp only at h
    split
    · rename_i h1
      rw [if_pos h1] at h
      split
      · rename_i h2
        rw [if_pos h2] at h
        cases h
      · rfl
    · rfl
/-! ### a grammar all of whose useful rules are short -/
structure PreOk (g : Gram) : Prop where
  few : 1 ≤ g.rules.length ∧ g.rules.length ≤ 16
  rok : RulesOk g.rules
  here : g.root ∈ g.rules.map (·.1)
  ends : (aGet g.lens g.root).isSome = true
  short : ∀ n ∈ g.useful, ∀ r, g.rules[n]? = some r → (aGet g.lens r.1).getD 0 ≤ 24
namespace PreOk
variable {g : Gram}
theorem nroot (h : PreOk g) : nam g.root = true := by
  obtain ⟨r, hr, e⟩ := List.mem_map.mp h.here
  rw [← e]
  exact (h.rok r hr).1
theorem rule (h : PreOk g) {n : Nat} (hn : n ∈ g.useful) : ∃ r, g.rules[n]? = some r ∧ RuOk g.lens r := by
  obtain ⟨r, h1, h2⟩ := useful_mem.mp hn
  have hm := List.mem_of_getElem? h1
  obtain ⟨a, b, c⟩ := h.rok r hm
  unfold usefulAt at h2
  rw [Bool.and_eq_true] at h2
  obtain ⟨x, hx, _⟩ := ll_fix h.rok hm h2.2
  exact ⟨r, h1, a, b, c, h2.2, by show (aGet (leastLengths g.rules) r.1).isSome = true; rw [hx]; rfl, h.short n hn r h1⟩
theorem bestOk (h : PreOk g) : LDok g.lens g.best ∧ (ldRound g.rules g.lens g.useful g.best).2 = false := by
  refine rounds_fix (f := ldRound g.rules g.lens g.useful) (LDok g.lens) muD (fun m hm => ?_) ldFuel [] (LDok.nil _) (Nat.lt_succ_self _)
  obtain ⟨h1, h2, h3, h4⟩ := ldFold (rules := g.rules) (lens := g.lens) (numbers := g.useful) (m, false) (fun n hn => h.rule hn) hm
  exact ⟨h1, h3 rfl, fun q => by rw [show ldRound g.rules g.lens g.useful m = _ from h4 q]⟩
/-- a rule of a reached name whose names have least derivations, and whose total is its name's least length: its name has one, and none is better -/
theorem bestFix (h : PreOk g) {n : Nat} {r : Rule} (hr : g.rules[n]? = some r) (hc : r.1 ∈ reached g.rules g.root g.lens) (hd : ldDue g.lens g.best r = true) : ldBetter g.best r = false := by
  have h2 := h.bestOk.2
  have hal : allIn g.lens r.2 = true := by
    have hm := List.mem_of_getElem? hr
    unfold ldDue at hd
    rw [Bool.and_eq_true] at hd
    refine List.all_eq_true.mpr fun c hcm => ?_
    have := List.all_eq_true.mp hd.2 c hcm
    refine h.bestOk.1.hl c ?_
    exact Decidable.byContradiction fun z => by rw [aGet_none.mpr z] at this; cases this
  have hn : n ∈ g.useful := useful_mem.mpr ⟨r, hr, by unfold usefulAt; rw [decide_eq_true hc, hal]; rfl⟩
  have := (fold_quiet ldStep_quiet h2).2 n hn
  cases hb : ldBetter g.best r with
  | false => rfl
  | true =>
    rw [ldStep_yes (st := (g.best, false)) hr hd hb] at this
    have := congrArg Prod.snd this
    cases this
/-- every reached name with a length has a least derivation -/
theorem best_all (h : PreOk g) : ∀ {b w : List Nat}, DerW g.rules b w → (∀ c ∈ namesIn b, c ∈ reached g.rules g.root g.lens) → total g.lens b = w.length → allIn g.best b = true := by
  intro b w hd
  induction hd with
  | nil => intro _ _; rfl
  | sign hc hb ih =>
    rename_i c b w
    intro hre ht
    refine allIn_cons.mpr ⟨fun z => (by rw [hc] at z; cases z), ih (fun x hx => hre x ?_) ?_⟩
    · unfold namesIn at hx ⊢
      rw [List.filter_cons, if_neg (by rw [hc]; exact Bool.false_ne_true)]
      exact hx
    · rw [total_cons, if_neg (by rw [hc]; exact Bool.false_ne_true), List.length_cons] at ht
      omega
  | name hm hn h1 h2 ih1 ih2 =>
    rename_i r b w1 w2
    intro hre ht
    have l1 := ll_least h.rok h1
    have l2 := ll_least h.rok h2
    obtain ⟨x, hx, hle⟩ := ll_fix h.rok hm l1.1
    rw [total_cons, if_pos hn, show aGet g.lens r.1 = some x from hx, List.length_append] at ht
    have e1 : total g.lens r.2 = w1.length := by
      have a1 := l1.2; have a2 := l2.2
      have b1 : total g.lens r.2 = total (leastLengths g.rules) r.2 := rfl
      have b2 : total g.lens b = total (leastLengths g.rules) b := rfl
      have ht' : x + total g.lens b = w1.length + w2.length := ht
      omega
    have e2 : total g.lens b = w2.length := by
      have a1 := l1.2; have a2 := l2.2
      have b1 : total g.lens r.2 = total (leastLengths g.rules) r.2 := rfl
      have b2 : total g.lens b = total (leastLengths g.rules) b := rfl
      have ht' : x + total g.lens b = w1.length + w2.length := ht
      omega
    have ex : total g.lens r.2 = x := by
      have a1 := l1.2; have a2 := l2.2
      have b1 : total g.lens r.2 = total (leastLengths g.rules) r.2 := rfl
      have ht' : x + total g.lens b = w1.length + w2.length := ht
      omega
    have hrc : r.1 ∈ reached g.rules g.root g.lens := hre r.1 (by unfold namesIn; rw [List.filter_cons, if_pos hn]; exact List.mem_cons_self)
    have hcl := (reached_ok (rules := g.rules) (lens := g.lens) h.nroot).2.2 r.1 hrc r hm rfl l1.1
    have a1 := ih1 hcl e1
    have a2 := ih2 (fun c hc => hre c (by unfold namesIn at hc ⊢; rw [List.filter_cons, if_pos hn]; exact List.mem_cons_of_mem _ hc)) e2
    obtain ⟨i, hi⟩ := List.mem_iff_getElem?.mp hm
    have hdue : ldDue g.lens g.best r = true := by
      unfold ldDue
      rw [a1, ex, show aGet g.lens r.1 = some x from hx]
      simp
    have hb := h.bestFix hi hrc hdue
    refine allIn_cons.mpr ⟨fun _ => ?_, a2⟩
    unfold ldBetter at hb
    cases q : aGet g.best r.1 with
    | none => rw [q] at hb; cases hb
    | some t => rfl
theorem root_best (h : PreOk g) : (aGet g.best g.root).isSome = true := by
  cases q : aGet g.lens g.root with
  | none => have := h.ends; rw [q] at this; cases this
  | some x =>
    obtain ⟨w, d, e⟩ := ll_sound h.rok g.root x q
    have hre := (reached_ok (rules := g.rules) (lens := g.lens) h.nroot).1
    have := h.best_all d (fun c hc => by
      unfold namesIn at hc
      have := (List.mem_filter.mp hc).1
      simp at this
      subst this
      exact hre) (by rw [total_cons, if_pos h.nroot, q, e]; show x + 0 = x; omega)
    exact (allIn_cons.mp this).1 h.nroot
theorem ok (h : PreOk g) (hfast : ∀ c t, aGet g.best c = some t → t.a ≤ 100) : g.Ok := by
  refine ⟨h.few, h.rok, h.here, h.ends, ?_, h.short, ?_, hfast⟩
  · cases q : aGet g.lens g.root with
    | none => have := h.ends; rw [q] at this; cases this
    | some x =>
      obtain ⟨w, d, e⟩ := ll_sound h.rok g.root x q
      obtain ⟨c0, hc0⟩ : ∃ c0, c0 = g.root := ⟨_, rfl⟩
      rw [← hc0] at d
      cases d with
      | sign hc _ => rw [hc0, h.nroot] at hc; cases hc
      | name hm hn h1 h2 =>
        rename_i r w1 w2
        obtain ⟨i, hi⟩ := List.mem_iff_getElem?.mp hm
        have hre := (reached_ok (rules := g.rules) (lens := g.lens) h.nroot).1
        intro he
        have : i ∈ g.useful := useful_mem.mpr ⟨r, hi, by unfold usefulAt; rw [hc0, decide_eq_true hre, show allIn g.lens r.2 = true from (ll_least h.rok h1).1]; rfl⟩
        rw [he] at this
        cases this
  · intro he
    have := h.root_best
    rw [he] at this
    cases this
end PreOk
end SF
namespace SF
def lawStep (st : List Nat × Int × Nat) (k : Nat) : List Nat × Int × Nat :=
  if 0 < st.2.1 then (st.1 ++ [(st.2.1 % 100).toNat], st.2.1 / 100, (st.2.2 * 137 + 71 + k) % 10007)
  else (st.1 ++ [(st.2.2 * 137 + 71 + k) % 10007 / 7 % 100], st.2.1, (st.2.2 * 137 + 71 + k) % 10007)
def lawSt (c : Int) (n : Nat) : List Nat × Int × Nat := (List.range n).foldl lawStep ([], c - 10 ^ 18, (c % 10007).toNat)
def draws (c : Int) (n : Nat) : List Nat := (lawSt c n).1
theorem lawSt_succ (c : Int) (n : Nat) : lawSt c (n + 1) = lawStep (lawSt c n) n := by unfold lawSt; rw [List.range_succ, List.foldl_append]; rfl
theorem draws_len (c : Int) : ∀ n, (draws c n).length = n
  | 0 => rfl
  | n + 1 => by
    have ih := draws_len c n
    unfold draws at ih ⊢
    rw [lawSt_succ]
    unfold lawStep
    split <;> simp [ih]
theorem lawSt_mixed (c : Int) (n : Nat) : (lawSt c n).2.2 < 10007 := by
  cases n with
  | zero =>
    show (c % 10007).toNat < 10007
    omega
  | succ n =>
    rw [lawSt_succ]
    unfold lawStep
    split <;> exact Nat.mod_lt _ (by decide)
theorem draws_lt (c : Int) : ∀ n, ∀ x ∈ draws c n, x < 100
  | 0, x, hx => by cases hx
  | n + 1, x, hx => by
    have ih := draws_lt c n
    unfold draws at ih hx
    rw [lawSt_succ] at hx
    unfold lawStep at hx
    split at hx
    · rcases List.mem_append.mp hx with h | h
      · exact ih x h
      · simp at h
        subst h
        omega
    · rcases List.mem_append.mp hx with h | h
      · exact ih x h
      · simp at h
        subst h
        omega
/-- the i-th draw -/
def dg (d : List Nat) (i : Nat) : Nat := d[i]?.getD 0
def lawNames (d : List Nat) : List Nat := (List.range (1 + dg d 2 % 3)).map fun k => 65 + (dg d 0 + k * (1 + dg d 1 % 12)) % 26
def lawSigns (d : List Nat) : List Nat := (List.range (1 + dg d 5 % 3)).map fun k => dg SIGNSl ((dg d 3 + k * (1 + dg d 4 % 17)) % 52)
/-- the place n, counted round -/
def rd (l : List Nat) (n : Nat) : Nat := dg l (n % l.length)
def lawKnown (n : Nat) (names signs : List Nat) : List Rule :=
  let s := dg names 0; let a := rd names 1; let b := rd names 2; let x := dg signs 0; let y := rd signs 1; let z := rd signs 2
  ([[(s, [x, s, y])], [(s, [x, s, y, s])], [(s, [a, z, s]), (s, [a]), (a, [x, s, y])], [(s, [x, s, x]), (s, [y, s, y])], [(s, [a, b]), (a, [x, a]), (b, [b, y])], [(s, [s, s]), (s, [x, s, y])],
    [(s, [x, a]), (a, [y, s]), (a, [z, b]), (b, [x, b])], [(s, [a, x, b]), (a, [b, a]), (b, [y])]] : List (List Rule))[n % 8]?.getD []
def insAt {α : Type} (l : List α) (i : Nat) (x : α) : List α := l.take i ++ [x] ++ l.drop i
def lawBody (d : List Nat) (parts : List Nat) (at_ : Nat) : List Nat := (List.range (dg d (at_ + 1) % 4)).map fun j => rd parts (dg d (at_ + 2 + j))
def lawRules0 (d names signs : List Nat) : List Rule :=
  if dg d 6 % 3 = 0 then lawKnown (dg d 7) names signs
  else (List.range (dg d 6 / 3 % 6)).map fun k => (rd names (dg d (8 + 5 * k)), lawBody d (names ++ signs) (8 + 5 * k))
def lawEnding (d signs : List Nat) (at_ : Nat) : List Nat :=
  ([[], [rd signs (dg d (at_ + 1))], [rd signs (dg d (at_ + 1)), rd signs (dg d (at_ + 1) / 10)], [rd signs (dg d (at_ + 1))]] : List (List Nat))[dg d at_ % 4]?.getD []
def lawEnd (d names signs : List Nat) (rules : List Rule) (k : Nat) : List Rule :=
  if k = 0 ∨ dg d (33 + 3 * k) % 4 < 3 then insAt rules (dg d (33 + 3 * k + 2) % (rules.length + 1)) (dg names k, lawEnding d signs (33 + 3 * k)) else rules
def lawGrammar (d : List Nat) : List Rule := (List.range (lawNames d).length).foldl (lawEnd d (lawNames d) (lawSigns d)) (lawRules0 d (lawNames d) (lawSigns d))
/-! ### what holds of them -/
theorem lawNames_len (d : List Nat) : 1 ≤ (lawNames d).length ∧ (lawNames d).length ≤ 3 := by
  unfold lawNames
  rw [List.length_map, List.length_range]
  omega
theorem lawSigns_len (d : List Nat) : 1 ≤ (lawSigns d).length ∧ (lawSigns d).length ≤ 3 := by
  unfold lawSigns
  rw [List.length_map, List.length_range]
  omega
theorem lawNames_nam (d : List Nat) : ∀ c ∈ lawNames d, nam c = true := fun c hc => by
  obtain ⟨k, _, rfl⟩ := List.mem_map.mp hc
  rw [nam_iff]
  omega
theorem dg_mem {l : List Nat} {i : Nat} (h : i < l.length) : dg l i ∈ l := by
  unfold dg
  rw [List.getElem?_eq_getElem h]
  exact List.getElem_mem h
theorem rd_mem {l : List Nat} {n : Nat} (h : 1 ≤ l.length) : rd l n ∈ l := dg_mem (Nat.mod_lt _ h)
theorem lawSigns_sgn (d : List Nat) : ∀ c ∈ lawSigns d, sgn c = true := fun c hc => by
  obtain ⟨k, _, rfl⟩ := List.mem_map.mp hc
  have : dg SIGNSl ((dg d 3 + k * (1 + dg d 4 % 17)) % 52) ∈ SIGNSl := dg_mem (by show _ < 52; omega)
  unfold sgn
  exact decide_eq_true this
/-- what a drawn list of rules keeps -/
structure RuD (names : List Nat) (r : Rule) : Prop where
  hd : r.1 ∈ names
  bd : ∀ c ∈ r.2, sgn c = true ∨ c ∈ names
  few : r.2.length ≤ 4
  less : r.1 ≠ dg names 0 → r.2.length ≤ 3
structure Drawn (names : List Nat) (rules : List Rule) : Prop where
  ru : ∀ r ∈ rules, RuD names r
  en : ∃ r ∈ rules, r.1 = dg names 0 ∧ r.2.length ≤ 2 ∧ ∀ c ∈ r.2, sgn c = true
section
variable {names signs : List Nat} (hn : 1 ≤ names.length) (hs : 1 ≤ signs.length) (hsg : ∀ c ∈ signs, sgn c = true)
include hn hs hsg
theorem known_ok (n : Nat) : ∀ r ∈ lawKnown n names signs, RuD names r := by
  have m0 : dg names 0 ∈ names := dg_mem hn
  have m1 : rd names 1 ∈ names := rd_mem hn
  have m2 : rd names 2 ∈ names := rd_mem hn
  have x0 : sgn (dg signs 0) = true := hsg _ (dg_mem hs)
  have x1 : sgn (rd signs 1) = true := hsg _ (rd_mem hs)
  have x2 : sgn (rd signs 2) = true := hsg _ (rd_mem hs)
  have h8 : n % 8 < 8 := Nat.mod_lt _ (by decide)
  unfold lawKnown
  dsimp only
  generalize n % 8 = i at h8
  generalize dg signs 0 = x at *
  generalize rd signs 1 = y at *
  generalize rd signs 2 = z at *
  generalize rd names 1 = a at *
  generalize rd names 2 = b at *
  have hcase : i = 0 ∨ i = 1 ∨ i = 2 ∨ i = 3 ∨ i = 4 ∨ i = 5 ∨ i = 6 ∨ i = 7 := by omega
  intro r hr
  rcases hcase with rfl | rfl | rfl | rfl | rfl | rfl | rfl | rfl
  all_goals
    simp only [List.getElem?_cons_zero, List.getElem?_cons_succ, Option.getD_some, List.mem_cons, List.not_mem_nil, or_false] at hr
  all_goals
    (repeat' (rcases hr with hr | hr))
  all_goals
    (try subst hr
     refine ⟨by assumption, fun c hc => ?_, by simp, fun hne => by first | (exact absurd rfl hne) | simp⟩)
  all_goals
    simp only [List.mem_cons, List.not_mem_nil, or_false] at hc
  all_goals
    (repeat' (rcases hc with hc | hc))
  all_goals
    (try subst hc
     first | (exact Or.inr (by assumption)) | (exact Or.inl (by assumption)))
theorem rules0_ok (d : List Nat) : ∀ r ∈ lawRules0 d names signs, RuD names r := by
  unfold lawRules0
  split
  · exact known_ok hn hs hsg _
  · intro r hr
    obtain ⟨k, _, rfl⟩ := List.mem_map.mp hr
    have hlen : (lawBody d (names ++ signs) (8 + 5 * k)).length ≤ 3 := by
      unfold lawBody
      rw [List.length_map, List.length_range]
      omega
    refine ⟨rd_mem hn, fun c hc => ?_, by show (lawBody _ _ _).length ≤ 4; omega, fun _ => hlen⟩
    obtain ⟨j, _, rfl⟩ := List.mem_map.mp hc
    have hm : rd (names ++ signs) (dg d (8 + 5 * k + 2 + j)) ∈ names ++ signs := rd_mem (by rw [List.length_append]; omega)
    rcases List.mem_append.mp hm with h | h
    · exact .inr h
    · exact .inl (hsg _ h)
theorem rules0_len (d : List Nat) : (lawRules0 d names signs).length ≤ 5 := by
  unfold lawRules0
  split
  · unfold lawKnown
    dsimp only
    have h8 : dg d 7 % 8 < 8 := Nat.mod_lt _ (by decide)
    generalize dg d 7 % 8 = i at h8
    have hcase : i = 0 ∨ i = 1 ∨ i = 2 ∨ i = 3 ∨ i = 4 ∨ i = 5 ∨ i = 6 ∨ i = 7 := by omega
    rcases hcase with rfl | rfl | rfl | rfl | rfl | rfl | rfl | rfl <;> simp
  · rw [List.length_map, List.length_range]
    omega
theorem ending_ok (d : List Nat) (at_ : Nat) : (lawEnding d signs at_).length ≤ 2 ∧ ∀ c ∈ lawEnding d signs at_, sgn c = true := by
  have x1 : sgn (rd signs (dg d (at_ + 1))) = true := hsg _ (rd_mem hs)
  have x2 : sgn (rd signs (dg d (at_ + 1) / 10)) = true := hsg _ (rd_mem hs)
  unfold lawEnding
  have h4 : dg d at_ % 4 < 4 := Nat.mod_lt _ (by decide)
  generalize dg d at_ % 4 = i at h4
  have hcase : i = 0 ∨ i = 1 ∨ i = 2 ∨ i = 3 := by omega
  rcases hcase with rfl | rfl | rfl | rfl
  · exact ⟨by simp, fun c hc => by simp at hc⟩
  · exact ⟨by simp, fun c hc => by simp at hc; subst hc; exact x1⟩
  · refine ⟨by simp, fun c hc => ?_⟩
    simp at hc
    rcases hc with rfl | rfl
    · exact x1
    · exact x2
  · exact ⟨by simp, fun c hc => by simp at hc; subst hc; exact x1⟩
end
theorem insAt_mem {α : Type} {l : List α} {i : Nat} {x y : α} : y ∈ insAt l i x ↔ y = x ∨ y ∈ l := by
  unfold insAt
  have h : y ∈ l ↔ y ∈ l.take i ∨ y ∈ l.drop i := by rw [← List.mem_append, List.take_append_drop]
  rw [List.mem_append, List.mem_append, List.mem_singleton, h]
  constructor
  · rintro ((h | h) | h)
    · exact .inr (.inl h)
    · exact .inl h
    · exact .inr (.inr h)
  · rintro (h | h | h)
    · exact .inl (.inr h)
    · exact .inl (.inl h)
    · exact .inr h
theorem insAt_len {α : Type} {l : List α} {i : Nat} {x : α} (h : i ≤ l.length) : (insAt l i x).length = l.length + 1 := by
  unfold insAt
  simp
  omega
/-- the endings of the first k names -/
theorem ends_ok (d names signs : List Nat) (hn : 1 ≤ names.length) (hs : 1 ≤ signs.length) (hsg : ∀ c ∈ signs, sgn c = true) : ∀ k, k ≤ names.length →
    (∀ r ∈ (List.range k).foldl (lawEnd d names signs) (lawRules0 d names signs), RuD names r) ∧ ((List.range k).foldl (lawEnd d names signs) (lawRules0 d names signs)).length ≤ 5 + k ∧
    (1 ≤ k → ∃ r ∈ (List.range k).foldl (lawEnd d names signs) (lawRules0 d names signs), r.1 = dg names 0 ∧ r.2.length ≤ 2 ∧ ∀ c ∈ r.2, sgn c = true)
  | 0, _ => ⟨rules0_ok hn hs hsg d, rules0_len hn hs hsg d, fun h => absurd h (by decide)⟩
  | k + 1, hk => by
    obtain ⟨h1, h2, h3⟩ := ends_ok d names signs hn hs hsg k (by omega)
    rw [List.range_succ, List.foldl_append]
    show (∀ r ∈ lawEnd d names signs _ k, RuD names r) ∧ (lawEnd d names signs _ k).length ≤ _ ∧ (_ → ∃ r ∈ lawEnd d names signs _ k, _)
    generalize (List.range k).foldl (lawEnd d names signs) (lawRules0 d names signs) = rules at h1 h2 h3
    obtain ⟨e1, e2⟩ := ending_ok hn hs hsg d (33 + 3 * k)
    unfold lawEnd
    split
    · rename_i hc
      refine ⟨fun r hr => ?_, ?_, fun _ => ?_⟩
      · rcases insAt_mem.mp hr with rfl | hr
        · exact ⟨dg_mem (by omega), fun c hc => .inl (e2 c hc), by show (lawEnding _ _ _).length ≤ 4; omega, fun _ => by show (lawEnding _ _ _).length ≤ 3; omega⟩
        · exact h1 r hr
      · rw [insAt_len (by have := Nat.mod_lt (dg d (33 + 3 * k + 2)) (show rules.length + 1 > 0 by omega); omega)]
        omega
      · by_cases h0 : k = 0
        · subst h0
          exact ⟨_, insAt_mem.mpr (.inl rfl), rfl, e1, e2⟩
        · obtain ⟨r, hr, hh⟩ := h3 (by omega)
          exact ⟨r, insAt_mem.mpr (.inr hr), hh⟩
    · rename_i hc
      refine ⟨h1, by omega, fun _ => ?_⟩
      by_cases h0 : k = 0
      · exact absurd (.inl h0) hc
      · exact h3 (by omega)
theorem lawGrammar_ok (d : List Nat) : Drawn (lawNames d) (lawGrammar d) ∧ (lawGrammar d).length ≤ 8 := by
  obtain ⟨h1, h2⟩ := lawNames_len d
  obtain ⟨h3, h4⟩ := lawSigns_len d
  obtain ⟨a, b, c⟩ := ends_ok d (lawNames d) (lawSigns d) h1 h3 (lawSigns_sgn d) _ (Nat.le_refl _)
  refine ⟨⟨a, c h1⟩, ?_⟩
  have b' : (lawGrammar d).length ≤ 5 + (lawNames d).length := b
  omega
end SF
namespace SF
theorem total_bound {lens : List (Nat × Nat)} {B : Nat} (h1 : 1 ≤ B) : ∀ {b : List Nat}, (∀ c ∈ namesIn b, (aGet lens c).getD 0 ≤ B) → total lens b ≤ b.length * B
  | [], _ => by simp [total, namesIn]
  | c :: b, h => by
    have hsub : ∀ x ∈ namesIn b, (aGet lens x).getD 0 ≤ B := fun x hx => h x (by
      unfold namesIn at hx ⊢
      rw [List.filter_cons]
      split
      · exact List.mem_cons_of_mem _ hx
      · exact hx)
    have ih := total_bound h1 hsub
    rw [total_cons, List.length_cons, Nat.succ_mul]
    split
    · rename_i hn
      have := h c (by unfold namesIn; rw [List.filter_cons, if_pos hn]; exact List.mem_cons_self)
      omega
    · omega
/-- the keys stand in an order in which each one has a rule of names ahead of it -/
def Ranked (rules : List Rule) (m : List (Nat × Nat)) : Prop := ∀ i c, (m.map (·.1))[i]? = some c → ∃ r ∈ rules, r.1 = c ∧ ∀ x ∈ namesIn r.2, x ∈ (m.map (·.1)).take i
theorem ll_ranked (rules : List Rule) : Ranked rules (leastLengths rules) := by
  have key : ∀ (l : List Rule) (st : List (Nat × Nat) × Bool), (∀ r ∈ l, r ∈ rules) → Ranked rules st.1 → Ranked rules (l.foldl llStep st).1 := by
    intro l
    induction l with
    | nil => intro st _ h; exact h
    | cons r l ih =>
      intro st hl h
      rw [List.foldl_cons]
      refine ih _ (fun x hx => hl x (List.mem_cons_of_mem _ hx)) ?_
      unfold llStep
      split
      · rename_i ha
        split
        · intro i c hi
          show ∃ q ∈ rules, q.1 = c ∧ ∀ x ∈ namesIn q.2, x ∈ ((aPut st.1 r.1 (total st.1 r.2)).map (·.1)).take i
          have hi' : ((aPut st.1 r.1 (total st.1 r.2)).map (·.1))[i]? = some c := hi
          rw [aPut_keys] at hi' ⊢
          split at hi'
          · rename_i hs
            rw [if_pos hs]
            exact h i c hi'
          · rename_i hs
            rw [if_neg hs]
            by_cases hlt : i < (st.1.map (·.1)).length
            · rw [List.getElem?_append_left hlt] at hi'
              rw [List.take_append_of_le_length (by omega)]
              exact h i c hi'
            · have hle := (List.getElem?_eq_some_iff.mp hi').1
              rw [List.length_append] at hle
              have hie : i = (st.1.map (·.1)).length := by simp at hle hlt ⊢; omega
              subst hie
              rw [List.getElem?_append_right (Nat.le_refl _)] at hi'
              simp at hi'
              subst hi'
              refine ⟨r, hl r List.mem_cons_self, rfl, fun x hx => ?_⟩
              rw [List.take_append_of_le_length (Nat.le_refl _), List.take_length]
              have := List.all_eq_true.mp ha x hx
              exact Decidable.byContradiction fun z => by rw [aGet_none.mpr z] at this; cases this
        · exact h
      · exact h
  have key2 : ∀ (n : Nat) (m : List (Nat × Nat)), Ranked rules m → Ranked rules (rounds (llRound rules) n m) := by
    intro n
    induction n with
    | zero => intro m h; exact h
    | succ n ih =>
      intro m h
      have h2 : Ranked rules (llRound rules m).1 := key rules (m, false) (fun _ h => h) h
      unfold rounds
      split
      · exact ih _ h2
      · exact h2
  exact key2 _ _ (fun i c h => by simp at h)
section
variable {names : List Nat} {rules : List Rule}
theorem Drawn.rok (h : Drawn names rules) (hn : ∀ c ∈ names, nam c = true) : RulesOk rules := fun r hr => by
  have q := h.ru r hr
  refine ⟨hn _ q.hd, q.few, fun c hc => ?_⟩
  rw [Bool.or_eq_true]
  rcases q.bd c hc with z | z
  · exact .inl z
  · exact .inr (hn c z)
theorem sgn_not_nam {c : Nat} (h : sgn c = true) : nam c = false := by
  have : ∀ x ∈ SIGNSl, nam x = false := by decide
  exact this c (by simpa [sgn] using h)
theorem no_names {b : List Nat} (h : ∀ c ∈ b, sgn c = true) : namesIn b = [] := by
  unfold namesIn
  rw [List.filter_eq_nil_iff]
  intro c hc
  rw [sgn_not_nam (h c hc)]
  exact Bool.false_ne_true
theorem Drawn.bound (h : Drawn names rules) (hn : ∀ c ∈ names, nam c = true) : (∃ x, aGet (leastLengths rules) (dg names 0) = some x ∧ x ≤ 2) ∧
    ∀ i c, ((leastLengths rules).map (·.1))[i]? = some c → (aGet (leastLengths rules) c).getD 0 ≤ 2 * 3 ^ ((((leastLengths rules).map (·.1)).take (i + 1)).filter fun x => decide (x ≠ dg names 0)).length := by
  have hrok := h.rok hn
  have hroot : ∃ x, aGet (leastLengths rules) (dg names 0) = some x ∧ x ≤ 2 := by
    obtain ⟨r, hr, e1, e2, e3⟩ := h.en
    have hnn := no_names e3
    obtain ⟨x, hx, hle⟩ := ll_fix hrok hr (by unfold allIn; rw [hnn]; rfl)
    rw [e1] at hx
    refine ⟨x, hx, ?_⟩
    unfold total at hle
    rw [hnn] at hle
    simp at hle
    omega
  refine ⟨hroot, ?_⟩
  have hrk := ll_ranked rules
  intro i
  induction i using Nat.strongRecOn with
  | _ i ih =>
    intro c hc
    by_cases e : c = dg names 0
    · subst e
      obtain ⟨x, hx, hle⟩ := hroot
      rw [hx]
      have := Nat.pow_pos (n := ((((leastLengths rules).map (·.1)).take (i + 1)).filter fun x => decide (x ≠ dg names 0)).length) (show 0 < 3 by decide)
      show x ≤ _
      omega
    · obtain ⟨r, hr, e1, e2⟩ := hrk i c hc
      have hal : allIn (leastLengths rules) r.2 = true := List.all_eq_true.mpr fun x hx => by
        have := List.mem_of_mem_take (e2 x hx)
        cases q : aGet (leastLengths rules) x with
        | none => exact absurd this (aGet_none.mp q)
        | some y => rfl
      obtain ⟨x, hx, hle⟩ := ll_fix hrok hr hal
      rw [e1] at hx
      rw [hx]
      have h3 : r.2.length ≤ 3 := (h.ru r hr).less (by rw [e1]; exact e)
      have hstep : ((((leastLengths rules).map (·.1)).take (i + 1)).filter fun x => decide (x ≠ dg names 0)).length = ((((leastLengths rules).map (·.1)).take i).filter fun x => decide (x ≠ dg names 0)).length + 1 := by
        have : ((leastLengths rules).map (·.1)).take (i + 1) = ((leastLengths rules).map (·.1)).take i ++ [c] := by
          rw [List.take_add_one, hc]
          rfl
        rw [this, List.filter_append, List.length_append]
        simp [e]
      rw [hstep, Nat.pow_succ]
      have hB := total_bound (lens := leastLengths rules) (B := 2 * 3 ^ ((((leastLengths rules).map (·.1)).take i).filter fun x => decide (x ≠ dg names 0)).length) (by
        have := Nat.pow_pos (n := ((((leastLengths rules).map (·.1)).take i).filter fun x => decide (x ≠ dg names 0)).length) (show 0 < 3 by decide)
        omega) (b := r.2) (fun y hy => by
          obtain ⟨j, hj⟩ := List.mem_iff_getElem?.mp (e2 y hy)
          have hji : j < i := by
            have := (List.getElem?_eq_some_iff.mp hj).1
            rw [List.length_take] at this
            omega
          rw [List.getElem?_take, if_pos hji] at hj
          refine Nat.le_trans (ih j hji y hj) (Nat.mul_le_mul_left _ (Nat.pow_le_pow_right (by decide) ?_))
          refine List.Sublist.length_le (List.Sublist.filter _ ?_)
          exact (List.take_prefix_take_left (show j + 1 ≤ i by omega)).sublist)
      have h4 := Nat.mul_le_mul_right (2 * 3 ^ ((((leastLengths rules).map (·.1)).take i).filter fun x => decide (x ≠ dg names 0)).length) h3
      show x ≤ _
      omega
theorem Drawn.keys (h : Drawn names rules) (hn : ∀ c ∈ names, nam c = true) : ∀ c ∈ (leastLengths rules).map (·.1), c ∈ names := fun c hc => by
  obtain ⟨i, hi⟩ := List.mem_iff_getElem?.mp hc
  obtain ⟨r, hr, e, _⟩ := ll_ranked rules i c hi
  rw [← e]
  exact (h.ru r hr).hd
theorem Drawn.ok (h : Drawn names rules) (hn : ∀ c ∈ names, nam c = true) (hlen : names.length ≤ 3) (h16 : rules.length ≤ 16) : (Gram.mk rules (dg names 0)).Ok := by
  have hrok := h.rok hn
  obtain ⟨⟨x0, hx0, hle0⟩, hb⟩ := h.bound hn
  have hll := (ll_fin hrok).1
  obtain ⟨r0, hr0, e1, e2, e3⟩ := h.en
  have hroot : dg names 0 ∈ names := e1 ▸ (h.ru r0 hr0).hd
  have hshort : ∀ c, (aGet (leastLengths rules) c).getD 0 ≤ 24 := fun c => by
    cases q : aGet (leastLengths rules) c with
    | none => simp
    | some x =>
      have hc : c ∈ (leastLengths rules).map (·.1) := Decidable.byContradiction fun z => by rw [aGet_none.mpr z] at q; cases q
      obtain ⟨i, hi⟩ := List.mem_iff_getElem?.mp hc
      have := hb i c hi
      rw [q] at this
      have hcnt : ((((leastLengths rules).map (·.1)).take (i + 1)).filter fun x => decide (x ≠ dg names 0)).length ≤ 2 := by
        have h1 := nodup_le (l := (((leastLengths rules).map (·.1)).take (i + 1)).filter fun x => decide (x ≠ dg names 0)) (s := names.erase (dg names 0)) (List.Pairwise.filter _ (hll.nd.sublist (List.take_sublist _ _))) (fun y hy => by
          obtain ⟨h1, h2⟩ := List.mem_filter.mp hy
          exact (List.mem_erase_of_ne (of_decide_eq_true h2)).mpr (h.keys hn y (List.mem_of_mem_take h1)))
        rw [List.length_erase_of_mem hroot] at h1
        omega
      have h3 := Nat.pow_le_pow_right (show 0 < 3 by decide) hcnt
      show x ≤ 24
      have this' : x ≤ 2 * 3 ^ _ := this
      omega
  have pre : PreOk (Gram.mk rules (dg names 0)) := ⟨⟨List.length_pos_of_mem hr0, h16⟩, hrok, List.mem_map.mpr ⟨r0, hr0, e1⟩, by show (aGet (leastLengths rules) (dg names 0)).isSome = true; rw [hx0]; rfl, fun n _ r _ => hshort r.1⟩
  refine pre.ok fun c t ht => ?_
  have bok := pre.bestOk.1
  have h1 := bok.st c t ht
  have h2 : (Gram.mk rules (dg names 0)).best.length ≤ 3 := by
    have := nodup_le bok.nd (s := names) (fun y hy => by
      have := bok.hl y hy
      refine h.keys hn y (Decidable.byContradiction fun z => ?_)
      have e : aGet (Gram.mk rules (dg names 0)).lens y = none := aGet_none.mpr z
      rw [e] at this
      cases this)
    rw [List.length_map] at this
    omega
  have h3 := geo_mono h2
  have h4 : geo 3 = 21 := rfl
  omega
end
end SF
namespace SF
open PySem PySem.Spec PyProof.Rows L2
/-! ### expressions that make data: the objects they make are new and frozen -/
section
variable {α β : Type} {σ : L2.St} {F0 : Hp}
def Mkd (te : TE) (σ : L2.St) (r : Rl α) (x : α) (F0 : Hp) : Prop := ∀ (F H : Hp) (Q : V → Hp → Prop), Same F0 F → Same F H → (∀ v F' H', Ext F H F' H' → r F' v x → Q v H') → te σ H Q
def MkA (ta : TA) (σ : L2.St) (r : Rl α) (xs : List α) (F0 : Hp) : Prop := ∀ (F H : Hp) (Q : List V → Hp → Prop), Same F0 F → Same F H → (∀ vs F' H', Ext F H F' H' → Al r F' vs xs → Q vs H') → ta σ H Q
theorem mk_var {r : Rl α} [Mono r] {i : Nat} {v : V} {x : α} (h : σ[i]? = some (some v)) (hr : r F0 v x) : Mkd (tVar i) σ r x F0 := fun F H Q s0 s k => ⟨v, h, k v F H (Ext.refl s) (Mono.mono s0 hr)⟩
theorem mk_c {r : Rl α} [Mono r] {v : V} {x : α} (hr : r F0 v x) : Mkd (tC v) σ r x F0 := fun F H Q s0 s k => k v F H (Ext.refl s) (Mono.mono s0 hr)
theorem mk_cat {ta tb : TE} {a b : List Nat} (ha : Mkd ta σ rS a F0) (hb : Mkd tb σ rS b F0) (hl : a.length + b.length ≤ 1000) :
    Mkd (tOp (fun x y H Q => ∃ i j, x = .str i ∧ y = .str j ∧ i.length + j.length ≤ sizeLine ∧ Q (.str (i ++ j)) H) ta tb) σ rS (a ++ b) F0 := fun F H Q s0 s k =>
  ha F H _ s0 s fun v F1 H1 e1 h1 => hb F1 H1 _ (s0.trans e1.ff) e1.fh fun u F2 H2 e2 h2 => by
    have h1 : v = .str (S a) := h1
    have h2 : u = .str (S b) := h2
    subst h1 h2
    exact ⟨_, _, rfl, rfl, by rw [S_len, S_len, sl64]; omega, by rw [S_app]; exact k _ F2 H2 (e1.trans e2) rfl⟩
theorem mka_nil {r : Rl α} : MkA tNil σ r [] F0 := fun F H Q _ s k => k [] F H (Ext.refl s) .nil
theorem mka_cons {r : Rl α} [Mono r] {te : TE} {ta : TA} {x : α} {xs : List α} (h : Mkd te σ r x F0) (t : MkA ta σ r xs F0) : MkA (tCons te ta) σ r (x :: xs) F0 := fun F H Q s0 s k =>
  h F H _ s0 s fun v F1 H1 e1 h1 => t F1 H1 _ (s0.trans e1.ff) e1.fh fun vs F2 H2 e2 h2 => k (v :: vs) F2 H2 (e1.trans e2) (.cons (Mono.mono e2.ff h1) h2)
theorem mk_tup {r : Rl α} {t : Rl β} [Mono r] [Mono t] {ta tb : TE} {x : α} {y : β} (ha : Mkd ta σ r x F0) (hb : Mkd tb σ t y F0) : Mkd (tTup (tCons ta (tCons tb tNil))) σ (rP r t) (x, y) F0 := fun F H Q s0 s k =>
  ha F H _ s0 s fun v F1 H1 e1 h1 => hb F1 H1 _ (s0.trans e1.ff) e1.fh fun u F2 H2 e2 h2 =>
    ⟨by show 2 ≤ sizeLine; rw [sl64]; omega, fun p hp => by
      have e3 := (e1.trans e2).newF hp (o := .tup [v, u])
      have e23 := (Ext.refl e2.fh).newF hp (o := .tup [v, u])
      exact k (.ref p) _ _ e3 ⟨p, v, u, rfl, upd_same, Mono.mono (e2.ff.trans e23.ff) h1, Mono.mono e23.ff h2⟩⟩
theorem mk_lst {r : Rl α} [Mono r] {ta : TA} {xs : List α} (h : MkA ta σ r xs F0) (hl : xs.length ≤ 1000) : Mkd (tLst ta) σ (rL r) xs F0 := fun F H Q s0 s k =>
  h F H _ s0 s fun vs F1 H1 e1 h1 => ⟨by rw [h1.len, sl64]; omega, fun p hp => by
    have e23 := (Ext.refl e1.fh).newF hp (o := .lst vs)
    exact k (.ref p) _ _ (e1.newF hp) ⟨p, vs, rfl, upd_same, h1.mono e23.ff⟩⟩
end
end SF
namespace SF
open PySem PySem.Spec PyProof.Rows L2
theorem menu_mk {σ : L2.St} {F : Hp} {a b s x y z : Nat} (h3 : σ[3]? = some (some (vc s))) (h4 : σ[4]? = some (some (vc a))) (h5 : σ[5]? = some (some (vc b))) (h6 : σ[6]? = some (some (vc x))) (h7 : σ[7]? = some (some (vc y))) (h8 : σ[8]? = some (some (vc z))) : Mkd (tLst (tCons (tLst (tCons (tTup (tCons (tVar 3) (tCons (tOp (fun x y H Q => ∃ i j, x = V.str i ∧ y = V.str j ∧ i.length + j.length ≤ sizeLine ∧ Q (V.str (i ++ j)) H) (tOp (fun x y H Q => ∃ i j, x = V.str i ∧ y = V.str j ∧ i.length + j.length ≤ sizeLine ∧ Q (V.str (i ++ j)) H) (tVar 6) (tVar 3)) (tVar 7)) tNil))) tNil)) (tCons (tLst (tCons (tTup (tCons (tVar 3) (tCons (tOp (fun x y H Q => ∃ i j, x = V.str i ∧ y = V.str j ∧ i.length + j.length ≤ sizeLine ∧ Q (V.str (i ++ j)) H) (tOp (fun x y H Q => ∃ i j, x = V.str i ∧ y = V.str j ∧ i.length + j.length ≤ sizeLine ∧ Q (V.str (i ++ j)) H) (tOp (fun x y H Q => ∃ i j, x = V.str i ∧ y = V.str j ∧ i.length + j.length ≤ sizeLine ∧ Q (V.str (i ++ j)) H) (tVar 6) (tVar 3)) (tVar 7)) (tVar 3)) tNil))) tNil)) (tCons (tLst (tCons (tTup (tCons (tVar 3) (tCons (tOp (fun x y H Q => ∃ i j, x = V.str i ∧ y = V.str j ∧ i.length + j.length ≤ sizeLine ∧ Q (V.str (i ++ j)) H) (tOp (fun x y H Q => ∃ i j, x = V.str i ∧ y = V.str j ∧ i.length + j.length ≤ sizeLine ∧ Q (V.str (i ++ j)) H) (tVar 4) (tVar 8)) (tVar 3)) tNil))) (tCons (tTup (tCons (tVar 3) (tCons (tVar 4) tNil))) (tCons (tTup (tCons (tVar 4) (tCons (tOp (fun x y H Q => ∃ i j, x = V.str i ∧ y = V.str j ∧ i.length + j.length ≤ sizeLine ∧ Q (V.str (i ++ j)) H) (tOp (fun x y H Q => ∃ i j, x = V.str i ∧ y = V.str j ∧ i.length + j.length ≤ sizeLine ∧ Q (V.str (i ++ j)) H) (tVar 6) (tVar 3)) (tVar 7)) tNil))) tNil)))) (tCons (tLst (tCons (tTup (tCons (tVar 3) (tCons (tOp (fun x y H Q => ∃ i j, x = V.str i ∧ y = V.str j ∧ i.length + j.length ≤ sizeLine ∧ Q (V.str (i ++ j)) H) (tOp (fun x y H Q => ∃ i j, x = V.str i ∧ y = V.str j ∧ i.length + j.length ≤ sizeLine ∧ Q (V.str (i ++ j)) H) (tVar 6) (tVar 3)) (tVar 6)) tNil))) (tCons (tTup (tCons (tVar 3) (tCons (tOp (fun x y H Q => ∃ i j, x = V.str i ∧ y = V.str j ∧ i.length + j.length ≤ sizeLine ∧ Q (V.str (i ++ j)) H) (tOp (fun x y H Q => ∃ i j, x = V.str i ∧ y = V.str j ∧ i.length + j.length ≤ sizeLine ∧ Q (V.str (i ++ j)) H) (tVar 7) (tVar 3)) (tVar 7)) tNil))) tNil))) (tCons (tLst (tCons (tTup (tCons (tVar 3) (tCons (tOp (fun x y H Q => ∃ i j, x = V.str i ∧ y = V.str j ∧ i.length + j.length ≤ sizeLine ∧ Q (V.str (i ++ j)) H) (tVar 4) (tVar 5)) tNil))) (tCons (tTup (tCons (tVar 4) (tCons (tOp (fun x y H Q => ∃ i j, x = V.str i ∧ y = V.str j ∧ i.length + j.length ≤ sizeLine ∧ Q (V.str (i ++ j)) H) (tVar 6) (tVar 4)) tNil))) (tCons (tTup (tCons (tVar 5) (tCons (tOp (fun x y H Q => ∃ i j, x = V.str i ∧ y = V.str j ∧ i.length + j.length ≤ sizeLine ∧ Q (V.str (i ++ j)) H) (tVar 5) (tVar 7)) tNil))) tNil)))) (tCons (tLst (tCons (tTup (tCons (tVar 3) (tCons (tOp (fun x y H Q => ∃ i j, x = V.str i ∧ y = V.str j ∧ i.length + j.length ≤ sizeLine ∧ Q (V.str (i ++ j)) H) (tVar 3) (tVar 3)) tNil))) (tCons (tTup (tCons (tVar 3) (tCons (tOp (fun x y H Q => ∃ i j, x = V.str i ∧ y = V.str j ∧ i.length + j.length ≤ sizeLine ∧ Q (V.str (i ++ j)) H) (tOp (fun x y H Q => ∃ i j, x = V.str i ∧ y = V.str j ∧ i.length + j.length ≤ sizeLine ∧ Q (V.str (i ++ j)) H) (tVar 6) (tVar 3)) (tVar 7)) tNil))) tNil))) (tCons (tLst (tCons (tTup (tCons (tVar 3) (tCons (tOp (fun x y H Q => ∃ i j, x = V.str i ∧ y = V.str j ∧ i.length + j.length ≤ sizeLine ∧ Q (V.str (i ++ j)) H) (tVar 6) (tVar 4)) tNil))) (tCons (tTup (tCons (tVar 4) (tCons (tOp (fun x y H Q => ∃ i j, x = V.str i ∧ y = V.str j ∧ i.length + j.length ≤ sizeLine ∧ Q (V.str (i ++ j)) H) (tVar 7) (tVar 3)) tNil))) (tCons (tTup (tCons (tVar 4) (tCons (tOp (fun x y H Q => ∃ i j, x = V.str i ∧ y = V.str j ∧ i.length + j.length ≤ sizeLine ∧ Q (V.str (i ++ j)) H) (tVar 8) (tVar 5)) tNil))) (tCons (tTup (tCons (tVar 5) (tCons (tOp (fun x y H Q => ∃ i j, x = V.str i ∧ y = V.str j ∧ i.length + j.length ≤ sizeLine ∧ Q (V.str (i ++ j)) H) (tVar 6) (tVar 5)) tNil))) tNil))))) (tCons (tLst (tCons (tTup (tCons (tVar 3) (tCons (tOp (fun x y H Q => ∃ i j, x = V.str i ∧ y = V.str j ∧ i.length + j.length ≤ sizeLine ∧ Q (V.str (i ++ j)) H) (tOp (fun x y H Q => ∃ i j, x = V.str i ∧ y = V.str j ∧ i.length + j.length ≤ sizeLine ∧ Q (V.str (i ++ j)) H) (tVar 4) (tVar 6)) (tVar 5)) tNil))) (tCons (tTup (tCons (tVar 4) (tCons (tOp (fun x y H Q => ∃ i j, x = V.str i ∧ y = V.str j ∧ i.length + j.length ≤ sizeLine ∧ Q (V.str (i ++ j)) H) (tVar 5) (tVar 4)) tNil))) (tCons (tTup (tCons (tVar 5) (tCons (tVar 7) tNil))) tNil)))) tNil))))))))) σ (rL (rL rRule)) [[(s, (([x] ++ [s]) ++ [y]))], [(s, ((([x] ++ [s]) ++ [y]) ++ [s]))], [(s, (([a] ++ [z]) ++ [s])), (s, [a]), (a, (([x] ++ [s]) ++ [y]))], [(s, (([x] ++ [s]) ++ [x])), (s, (([y] ++ [s]) ++ [y]))], [(s, ([a] ++ [b])), (a, ([x] ++ [a])), (b, ([b] ++ [y]))], [(s, ([s] ++ [s])), (s, (([x] ++ [s]) ++ [y]))], [(s, ([x] ++ [a])), (a, ([y] ++ [s])), (a, ([z] ++ [b])), (b, ([x] ++ [b]))], [(s, (([a] ++ [x]) ++ [b])), (a, ([b] ++ [a])), (b, [y])]] F :=
  (mk_lst (mka_cons (mk_lst (mka_cons (mk_tup (r := rC) (t := rS) (mk_var (r := rC) (i := 3) (v := vc s) (x := s) h3 rfl) (mk_cat (a := ([x] ++ [s])) (b := [y]) (mk_cat (a := [x]) (b := [s]) (mk_var (r := rS) (i := 6) (v := vc x) (x := [x]) h6 rfl) (mk_var (r := rS) (i := 3) (v := vc s) (x := [s]) h3 rfl) (by simp)) (mk_var (r := rS) (i := 7) (v := vc y) (x := [y]) h7 rfl) (by simp))) mka_nil) (by simp)) (mka_cons (mk_lst (mka_cons (mk_tup (r := rC) (t := rS) (mk_var (r := rC) (i := 3) (v := vc s) (x := s) h3 rfl) (mk_cat (a := (([x] ++ [s]) ++ [y])) (b := [s]) (mk_cat (a := ([x] ++ [s])) (b := [y]) (mk_cat (a := [x]) (b := [s]) (mk_var (r := rS) (i := 6) (v := vc x) (x := [x]) h6 rfl) (mk_var (r := rS) (i := 3) (v := vc s) (x := [s]) h3 rfl) (by simp)) (mk_var (r := rS) (i := 7) (v := vc y) (x := [y]) h7 rfl) (by simp)) (mk_var (r := rS) (i := 3) (v := vc s) (x := [s]) h3 rfl) (by simp))) mka_nil) (by simp)) (mka_cons (mk_lst (mka_cons (mk_tup (r := rC) (t := rS) (mk_var (r := rC) (i := 3) (v := vc s) (x := s) h3 rfl) (mk_cat (a := ([a] ++ [z])) (b := [s]) (mk_cat (a := [a]) (b := [z]) (mk_var (r := rS) (i := 4) (v := vc a) (x := [a]) h4 rfl) (mk_var (r := rS) (i := 8) (v := vc z) (x := [z]) h8 rfl) (by simp)) (mk_var (r := rS) (i := 3) (v := vc s) (x := [s]) h3 rfl) (by simp))) (mka_cons (mk_tup (r := rC) (t := rS) (mk_var (r := rC) (i := 3) (v := vc s) (x := s) h3 rfl) (mk_var (r := rS) (i := 4) (v := vc a) (x := [a]) h4 rfl)) (mka_cons (mk_tup (r := rC) (t := rS) (mk_var (r := rC) (i := 4) (v := vc a) (x := a) h4 rfl) (mk_cat (a := ([x] ++ [s])) (b := [y]) (mk_cat (a := [x]) (b := [s]) (mk_var (r := rS) (i := 6) (v := vc x) (x := [x]) h6 rfl) (mk_var (r := rS) (i := 3) (v := vc s) (x := [s]) h3 rfl) (by simp)) (mk_var (r := rS) (i := 7) (v := vc y) (x := [y]) h7 rfl) (by simp))) mka_nil))) (by simp)) (mka_cons (mk_lst (mka_cons (mk_tup (r := rC) (t := rS) (mk_var (r := rC) (i := 3) (v := vc s) (x := s) h3 rfl) (mk_cat (a := ([x] ++ [s])) (b := [x]) (mk_cat (a := [x]) (b := [s]) (mk_var (r := rS) (i := 6) (v := vc x) (x := [x]) h6 rfl) (mk_var (r := rS) (i := 3) (v := vc s) (x := [s]) h3 rfl) (by simp)) (mk_var (r := rS) (i := 6) (v := vc x) (x := [x]) h6 rfl) (by simp))) (mka_cons (mk_tup (r := rC) (t := rS) (mk_var (r := rC) (i := 3) (v := vc s) (x := s) h3 rfl) (mk_cat (a := ([y] ++ [s])) (b := [y]) (mk_cat (a := [y]) (b := [s]) (mk_var (r := rS) (i := 7) (v := vc y) (x := [y]) h7 rfl) (mk_var (r := rS) (i := 3) (v := vc s) (x := [s]) h3 rfl) (by simp)) (mk_var (r := rS) (i := 7) (v := vc y) (x := [y]) h7 rfl) (by simp))) mka_nil)) (by simp)) (mka_cons (mk_lst (mka_cons (mk_tup (r := rC) (t := rS) (mk_var (r := rC) (i := 3) (v := vc s) (x := s) h3 rfl) (mk_cat (a := [a]) (b := [b]) (mk_var (r := rS) (i := 4) (v := vc a) (x := [a]) h4 rfl) (mk_var (r := rS) (i := 5) (v := vc b) (x := [b]) h5 rfl) (by simp))) (mka_cons (mk_tup (r := rC) (t := rS) (mk_var (r := rC) (i := 4) (v := vc a) (x := a) h4 rfl) (mk_cat (a := [x]) (b := [a]) (mk_var (r := rS) (i := 6) (v := vc x) (x := [x]) h6 rfl) (mk_var (r := rS) (i := 4) (v := vc a) (x := [a]) h4 rfl) (by simp))) (mka_cons (mk_tup (r := rC) (t := rS) (mk_var (r := rC) (i := 5) (v := vc b) (x := b) h5 rfl) (mk_cat (a := [b]) (b := [y]) (mk_var (r := rS) (i := 5) (v := vc b) (x := [b]) h5 rfl) (mk_var (r := rS) (i := 7) (v := vc y) (x := [y]) h7 rfl) (by simp))) mka_nil))) (by simp)) (mka_cons (mk_lst (mka_cons (mk_tup (r := rC) (t := rS) (mk_var (r := rC) (i := 3) (v := vc s) (x := s) h3 rfl) (mk_cat (a := [s]) (b := [s]) (mk_var (r := rS) (i := 3) (v := vc s) (x := [s]) h3 rfl) (mk_var (r := rS) (i := 3) (v := vc s) (x := [s]) h3 rfl) (by simp))) (mka_cons (mk_tup (r := rC) (t := rS) (mk_var (r := rC) (i := 3) (v := vc s) (x := s) h3 rfl) (mk_cat (a := ([x] ++ [s])) (b := [y]) (mk_cat (a := [x]) (b := [s]) (mk_var (r := rS) (i := 6) (v := vc x) (x := [x]) h6 rfl) (mk_var (r := rS) (i := 3) (v := vc s) (x := [s]) h3 rfl) (by simp)) (mk_var (r := rS) (i := 7) (v := vc y) (x := [y]) h7 rfl) (by simp))) mka_nil)) (by simp)) (mka_cons (mk_lst (mka_cons (mk_tup (r := rC) (t := rS) (mk_var (r := rC) (i := 3) (v := vc s) (x := s) h3 rfl) (mk_cat (a := [x]) (b := [a]) (mk_var (r := rS) (i := 6) (v := vc x) (x := [x]) h6 rfl) (mk_var (r := rS) (i := 4) (v := vc a) (x := [a]) h4 rfl) (by simp))) (mka_cons (mk_tup (r := rC) (t := rS) (mk_var (r := rC) (i := 4) (v := vc a) (x := a) h4 rfl) (mk_cat (a := [y]) (b := [s]) (mk_var (r := rS) (i := 7) (v := vc y) (x := [y]) h7 rfl) (mk_var (r := rS) (i := 3) (v := vc s) (x := [s]) h3 rfl) (by simp))) (mka_cons (mk_tup (r := rC) (t := rS) (mk_var (r := rC) (i := 4) (v := vc a) (x := a) h4 rfl) (mk_cat (a := [z]) (b := [b]) (mk_var (r := rS) (i := 8) (v := vc z) (x := [z]) h8 rfl) (mk_var (r := rS) (i := 5) (v := vc b) (x := [b]) h5 rfl) (by simp))) (mka_cons (mk_tup (r := rC) (t := rS) (mk_var (r := rC) (i := 5) (v := vc b) (x := b) h5 rfl) (mk_cat (a := [x]) (b := [b]) (mk_var (r := rS) (i := 6) (v := vc x) (x := [x]) h6 rfl) (mk_var (r := rS) (i := 5) (v := vc b) (x := [b]) h5 rfl) (by simp))) mka_nil)))) (by simp)) (mka_cons (mk_lst (mka_cons (mk_tup (r := rC) (t := rS) (mk_var (r := rC) (i := 3) (v := vc s) (x := s) h3 rfl) (mk_cat (a := ([a] ++ [x])) (b := [b]) (mk_cat (a := [a]) (b := [x]) (mk_var (r := rS) (i := 4) (v := vc a) (x := [a]) h4 rfl) (mk_var (r := rS) (i := 6) (v := vc x) (x := [x]) h6 rfl) (by simp)) (mk_var (r := rS) (i := 5) (v := vc b) (x := [b]) h5 rfl) (by simp))) (mka_cons (mk_tup (r := rC) (t := rS) (mk_var (r := rC) (i := 4) (v := vc a) (x := a) h4 rfl) (mk_cat (a := [b]) (b := [a]) (mk_var (r := rS) (i := 5) (v := vc b) (x := [b]) h5 rfl) (mk_var (r := rS) (i := 4) (v := vc a) (x := [a]) h4 rfl) (by simp))) (mka_cons (mk_tup (r := rC) (t := rS) (mk_var (r := rC) (i := 5) (v := vc b) (x := b) h5 rfl) (mk_var (r := rS) (i := 7) (v := vc y) (x := [y]) h7 rfl)) mka_nil))) (by simp)) mka_nil)))))))) (by simp))
theorem menu_mk_use {σ : L2.St} {F H : Hp} {Q : V → Hp → Prop} {a b s x y z : Nat} (h3 : σ[3]? = some (some (vc s))) (h4 : σ[4]? = some (some (vc a))) (h5 : σ[5]? = some (some (vc b))) (h6 : σ[6]? = some (some (vc x))) (h7 : σ[7]? = some (some (vc y))) (h8 : σ[8]? = some (some (vc z))) (sF : Same F H) (k : ∀ v F' H', Ext F H F' H' → (rL (rL rRule)) F' v [[(s, (([x] ++ [s]) ++ [y]))], [(s, ((([x] ++ [s]) ++ [y]) ++ [s]))], [(s, (([a] ++ [z]) ++ [s])), (s, [a]), (a, (([x] ++ [s]) ++ [y]))], [(s, (([x] ++ [s]) ++ [x])), (s, (([y] ++ [s]) ++ [y]))], [(s, ([a] ++ [b])), (a, ([x] ++ [a])), (b, ([b] ++ [y]))], [(s, ([s] ++ [s])), (s, (([x] ++ [s]) ++ [y]))], [(s, ([x] ++ [a])), (a, ([y] ++ [s])), (a, ([z] ++ [b])), (b, ([x] ++ [b]))], [(s, (([a] ++ [x]) ++ [b])), (a, ([b] ++ [a])), (b, [y])]] → Q v H') : (tLst (tCons (tLst (tCons (tTup (tCons (tVar 3) (tCons (tOp (fun x y H Q => ∃ i j, x = V.str i ∧ y = V.str j ∧ i.length + j.length ≤ sizeLine ∧ Q (V.str (i ++ j)) H) (tOp (fun x y H Q => ∃ i j, x = V.str i ∧ y = V.str j ∧ i.length + j.length ≤ sizeLine ∧ Q (V.str (i ++ j)) H) (tVar 6) (tVar 3)) (tVar 7)) tNil))) tNil)) (tCons (tLst (tCons (tTup (tCons (tVar 3) (tCons (tOp (fun x y H Q => ∃ i j, x = V.str i ∧ y = V.str j ∧ i.length + j.length ≤ sizeLine ∧ Q (V.str (i ++ j)) H) (tOp (fun x y H Q => ∃ i j, x = V.str i ∧ y = V.str j ∧ i.length + j.length ≤ sizeLine ∧ Q (V.str (i ++ j)) H) (tOp (fun x y H Q => ∃ i j, x = V.str i ∧ y = V.str j ∧ i.length + j.length ≤ sizeLine ∧ Q (V.str (i ++ j)) H) (tVar 6) (tVar 3)) (tVar 7)) (tVar 3)) tNil))) tNil)) (tCons (tLst (tCons (tTup (tCons (tVar 3) (tCons (tOp (fun x y H Q => ∃ i j, x = V.str i ∧ y = V.str j ∧ i.length + j.length ≤ sizeLine ∧ Q (V.str (i ++ j)) H) (tOp (fun x y H Q => ∃ i j, x = V.str i ∧ y = V.str j ∧ i.length + j.length ≤ sizeLine ∧ Q (V.str (i ++ j)) H) (tVar 4) (tVar 8)) (tVar 3)) tNil))) (tCons (tTup (tCons (tVar 3) (tCons (tVar 4) tNil))) (tCons (tTup (tCons (tVar 4) (tCons (tOp (fun x y H Q => ∃ i j, x = V.str i ∧ y = V.str j ∧ i.length + j.length ≤ sizeLine ∧ Q (V.str (i ++ j)) H) (tOp (fun x y H Q => ∃ i j, x = V.str i ∧ y = V.str j ∧ i.length + j.length ≤ sizeLine ∧ Q (V.str (i ++ j)) H) (tVar 6) (tVar 3)) (tVar 7)) tNil))) tNil)))) (tCons (tLst (tCons (tTup (tCons (tVar 3) (tCons (tOp (fun x y H Q => ∃ i j, x = V.str i ∧ y = V.str j ∧ i.length + j.length ≤ sizeLine ∧ Q (V.str (i ++ j)) H) (tOp (fun x y H Q => ∃ i j, x = V.str i ∧ y = V.str j ∧ i.length + j.length ≤ sizeLine ∧ Q (V.str (i ++ j)) H) (tVar 6) (tVar 3)) (tVar 6)) tNil))) (tCons (tTup (tCons (tVar 3) (tCons (tOp (fun x y H Q => ∃ i j, x = V.str i ∧ y = V.str j ∧ i.length + j.length ≤ sizeLine ∧ Q (V.str (i ++ j)) H) (tOp (fun x y H Q => ∃ i j, x = V.str i ∧ y = V.str j ∧ i.length + j.length ≤ sizeLine ∧ Q (V.str (i ++ j)) H) (tVar 7) (tVar 3)) (tVar 7)) tNil))) tNil))) (tCons (tLst (tCons (tTup (tCons (tVar 3) (tCons (tOp (fun x y H Q => ∃ i j, x = V.str i ∧ y = V.str j ∧ i.length + j.length ≤ sizeLine ∧ Q (V.str (i ++ j)) H) (tVar 4) (tVar 5)) tNil))) (tCons (tTup (tCons (tVar 4) (tCons (tOp (fun x y H Q => ∃ i j, x = V.str i ∧ y = V.str j ∧ i.length + j.length ≤ sizeLine ∧ Q (V.str (i ++ j)) H) (tVar 6) (tVar 4)) tNil))) (tCons (tTup (tCons (tVar 5) (tCons (tOp (fun x y H Q => ∃ i j, x = V.str i ∧ y = V.str j ∧ i.length + j.length ≤ sizeLine ∧ Q (V.str (i ++ j)) H) (tVar 5) (tVar 7)) tNil))) tNil)))) (tCons (tLst (tCons (tTup (tCons (tVar 3) (tCons (tOp (fun x y H Q => ∃ i j, x = V.str i ∧ y = V.str j ∧ i.length + j.length ≤ sizeLine ∧ Q (V.str (i ++ j)) H) (tVar 3) (tVar 3)) tNil))) (tCons (tTup (tCons (tVar 3) (tCons (tOp (fun x y H Q => ∃ i j, x = V.str i ∧ y = V.str j ∧ i.length + j.length ≤ sizeLine ∧ Q (V.str (i ++ j)) H) (tOp (fun x y H Q => ∃ i j, x = V.str i ∧ y = V.str j ∧ i.length + j.length ≤ sizeLine ∧ Q (V.str (i ++ j)) H) (tVar 6) (tVar 3)) (tVar 7)) tNil))) tNil))) (tCons (tLst (tCons (tTup (tCons (tVar 3) (tCons (tOp (fun x y H Q => ∃ i j, x = V.str i ∧ y = V.str j ∧ i.length + j.length ≤ sizeLine ∧ Q (V.str (i ++ j)) H) (tVar 6) (tVar 4)) tNil))) (tCons (tTup (tCons (tVar 4) (tCons (tOp (fun x y H Q => ∃ i j, x = V.str i ∧ y = V.str j ∧ i.length + j.length ≤ sizeLine ∧ Q (V.str (i ++ j)) H) (tVar 7) (tVar 3)) tNil))) (tCons (tTup (tCons (tVar 4) (tCons (tOp (fun x y H Q => ∃ i j, x = V.str i ∧ y = V.str j ∧ i.length + j.length ≤ sizeLine ∧ Q (V.str (i ++ j)) H) (tVar 8) (tVar 5)) tNil))) (tCons (tTup (tCons (tVar 5) (tCons (tOp (fun x y H Q => ∃ i j, x = V.str i ∧ y = V.str j ∧ i.length + j.length ≤ sizeLine ∧ Q (V.str (i ++ j)) H) (tVar 6) (tVar 5)) tNil))) tNil))))) (tCons (tLst (tCons (tTup (tCons (tVar 3) (tCons (tOp (fun x y H Q => ∃ i j, x = V.str i ∧ y = V.str j ∧ i.length + j.length ≤ sizeLine ∧ Q (V.str (i ++ j)) H) (tOp (fun x y H Q => ∃ i j, x = V.str i ∧ y = V.str j ∧ i.length + j.length ≤ sizeLine ∧ Q (V.str (i ++ j)) H) (tVar 4) (tVar 6)) (tVar 5)) tNil))) (tCons (tTup (tCons (tVar 4) (tCons (tOp (fun x y H Q => ∃ i j, x = V.str i ∧ y = V.str j ∧ i.length + j.length ≤ sizeLine ∧ Q (V.str (i ++ j)) H) (tVar 5) (tVar 4)) tNil))) (tCons (tTup (tCons (tVar 5) (tCons (tVar 7) tNil))) tNil)))) tNil))))))))) σ H Q := menu_mk h3 h4 h5 h6 h7 h8 F H Q (Same.refl F) sF k
end SF
namespace SF
open PySem PySem.Spec PyProof.Rows L2
/-! ### the head's facts: names, defs at any address, and a Bool of one's own -/
abbrev AlP : Type := He.AlD × Bool
/-! what the names reach in n steps, gone through with the bits of a number -/
def addB : List Addr → List Addr → Nat → List Addr × Nat
  | [], acc, seen => (acc, seen)
  | x :: r, acc, seen => match seen.testBit x with
    | true => addB r acc seen
    | false => addB r (x :: acc) (seen ||| (1 <<< x))
def growB (g : Addr → Option Obj) : List Addr → List Addr → Nat → List Addr × Nat
  | [], acc, seen => (acc, seen)
  | a :: r, acc, seen => match g a with
    | some o => (match addB (He.refsD o) acc seen with
      | (acc', seen') => growB g r acc' seen')
    | none => growB g r acc seen
def asB (g : Addr → Option Obj) : Nat → List Addr → Nat → List Addr
  | 0, fr, _ => fr
  | n + 1, fr, seen => match growB g fr [] seen with
    | (nx, seen') => fr ++ asB g n nx seen'
def asP (g : Addr → Option Obj) (n : Nat) : List Addr := asB g n [mainGlobals] (1 <<< mainGlobals) ++ [PySem.cStatics]
def obsP (fa : List He.Fa) (fn : List He5.DefA) (ex : PySem.W.Frag → Bool) (K : PySem.W.Frag) : AlP := (He5.obsA fa fn K, ex K)
def valP (fn : List He5.DefA) : AlP := (He5.valA fn, true)
def obsPG (n : Nat) (fa : List He.Fa) (fn : List He5.DefA) (ex : PySem.W.Frag → Bool) (g : Addr → Option Obj) : AlP := obsP fa fn ex (He.frG g (asP g n))
structure SaysP (fa : List He.Fa) (fn : List He5.DefA) (ex : PySem.W.Frag → Bool) (K : PySem.W.Frag) : Prop where
  a : He5.SaysA fa fn K
  more : ex K = true
def hookP (n : Nat) (fa : List He.Fa) (fn : List He5.DefA) (ex : PySem.W.Frag → Bool) : PySem.W.Hook where
  α := AlP
  obs := fun s => obsPG n fa fn ex s.heap.get?
  val := fun _ => valP fn
  says := fun _ h => ∃ K : PySem.W.Frag, K.In h ∧ SaysP fa fn ex K
  of := fun _ _ e => ⟨_, He.frG_in, congrArg (fun z : AlP => z.1) e, congrArg (fun z : AlP => z.2) e⟩
  keeps := fun _ _ _ ⟨K, hK, c⟩ k => ⟨K, PySem.W.Frag.In.keeps hK k, c⟩
theorem obsPG_eq {n : Nat} {fa : List He.Fa} {fn : List He5.DefA} {ex : PySem.W.Frag → Bool} {g : Addr → Option Obj} {s : Shared} (h : ∀ a, g a = s.heap.get? a) : obsPG n fa fn ex g = (hookP n fa fn ex).obs s := by
  have e : g = s.heap.get? := funext h
  rw [e] <;> rfl
theorem run_comb {α β : Type} {a c d e : Bool} {x y : α} {m v : β} (h0 : a = true) (h1 : x = y) (h2 : c = true) (h3 : d = true) (h4 : m = v) (h5 : e = true) : some (a, x, ((c && d, m), e)) = some (true, y, ((true, v), true)) := by subst h0 h1 h2 h3 h4 h5; rfl
/-! ### facts of one's own -/
def propB (K : PySem.W.Frag) (x f : Str) : Bool := He.eqO (PySem.W.findIn K (.ref (He.ga K x)) f) (some (some (.ref (He.ma K (He.ga K x) f)))) && (He.eqO (PySem.W.specialIn K (.ref (He.ma K (He.ga K x) f)) "__get__") (some (some (.builtin "property.__get__"))) &&
  (decide (PySem.W.takesIn K (.ref (He.ma K (He.ga K x) f)) = some true) && (match PySem.W.recIn K (He.ma K (He.ga K x) f) "property" with
    | some (.ref _ :: _) => true
    | _ => false)))
theorem propB_ok {K : PySem.W.Frag} {x f : Str} (h : propB K x f = true) : PropOf K (He.ga K x) f (He.ma K (He.ga K x) f) (He5.wf K (He.ga K x) "property" f) := by
  obtain ⟨h1, h⟩ := He.ba h
  obtain ⟨h2, h⟩ := He.ba h
  obtain ⟨h3, h4⟩ := He.ba h
  refine ⟨He.eqO_ok h1, He.eqO_ok h2, of_decide_eq_true h3, ?_⟩
  unfold He5.wf
  split at h4
  · rename_i f r e
    exact ⟨r, by rw [e]⟩
  · cases h4
def creadB (K : PySem.W.Frag) (x : Str) : Bool := PySem.W.readsIn K (He.ga K x) (.type "type") && He.eqO (PySem.W.specialIn K (.ref (He.ga K x)) "__getattribute__") (some (some (.builtin "type.__getattribute__")))
theorem creadB_ok {K : PySem.W.Frag} {x : Str} (h : creadB K x = true) : ClX.CRead K (He.ga K x) (.type "type") := by
  obtain ⟨h1, h2⟩ := He.ba h
  exact ⟨h1, He.eqO_ok h2⟩
def cvalB (K : PySem.W.Frag) (x f : Str) (v : He.Dv) : Bool := match PySem.W.findCls K (.ref (He.ga K x)) (.type "type") f with
  | some (.val u) => He.relB (v.v K) u
  | _ => false
theorem cvalB_ok {K : PySem.W.Frag} {x f : Str} {v : He.Dv} (h : cvalB K x f v = true) : ∃ u, ClX.CVal K (He.ga K x) (.type "type") f (v.v K) u := by
  unfold cvalB at h
  split at h
  · rename_i u e
    exact ⟨u, e, He.relB_ok h⟩
  · cases h
/-! classes with slots -/
def sclsB (K : PySem.W.Frag) (x : Str) : Bool := PySem.W.plainGet K (He.ga K x) Str.empty && (PySem.W.isClsIn K (He.ga K x) && (PySem.W.plainOver K (He.ga K x) && He.eqO (PySem.W.findIn K (.ref (He.ga K x)) "__setattr__") (some (some (.builtin "object.__setattr__")))))
theorem sclsB_ok {K : PySem.W.Frag} {x : Str} (h : sclsB K x = true) : SlX.SCls K (He.ga K x) := by
  obtain ⟨h1, h⟩ := He.ba h
  obtain ⟨h2, h⟩ := He.ba h
  obtain ⟨h3, h4⟩ := He.ba h
  exact ⟨h1, h2, h3, He.eqO_ok h4⟩
def sisiB (K : PySem.W.Frag) (x : Str) : Bool := He.eqO (PySem.W.findIn K (.ref (He.ga K x)) "__class__") (some (some (.builtin "object.__class__"))) && (He.eqO (PySem.W.specialIn K (.builtin "object.__class__") "__get__") (some (some (.builtin "getset_descriptor.__get__"))) &&
  (decide (PySem.W.takesIn K (.builtin "object.__class__") = some true) && decide (PySem.W.mroIn K (He.ga K x) (.type "object") = some true)))
theorem sisiB_ok {K : PySem.W.Frag} {x : Str} (h : sisiB K x = true) : SlX.SIsi K (He.ga K x) := by
  obtain ⟨h1, h⟩ := He.ba h
  obtain ⟨h2, h⟩ := He.ba h
  obtain ⟨h3, h4⟩ := He.ba h
  exact ⟨He.eqO_ok h1, He.eqO_ok h2, of_decide_eq_true h3, of_decide_eq_true h4⟩
def slotB (K : PySem.W.Frag) (x f : Str) (i : Nat) : Bool := match PySem.W.findIn K (.ref (He.ga K x)) f with
  | some (some (.ref p)) => He.eqO (PySem.W.specialIn K (.ref p) "__get__") (some (some (.builtin "member_descriptor.__get__"))) && (decide (PySem.W.takesIn K (.ref p) = some true) && (decide (PySem.W.typeIn K (.ref p) = some (.type "member_descriptor")) && (decide (PySem.W.slotIn K p (He.ga K x) = some i) && decide (i < 1000))))
  | _ => false
theorem slotB_ok {K : PySem.W.Frag} {x f : Str} {i : Nat} (h : slotB K x f i = true) : ∃ p, SlX.Slot1 K (He.ga K x) f p i := by
  unfold slotB at h
  split at h
  · rename_i p e
    obtain ⟨h1, h⟩ := He.ba h
    obtain ⟨h2, h⟩ := He.ba h
    obtain ⟨h3, h⟩ := He.ba h
    obtain ⟨h4, h5⟩ := He.ba h
    exact ⟨p, e, He.eqO_ok h1, of_decide_eq_true h2, of_decide_eq_true h3, of_decide_eq_true h4, of_decide_eq_true h5⟩
  · cases h
end SF
namespace SF
/-- n turns of a step that only adds: behind them nothing is added, if the list cannot grow beyond n -/
def turns {α : Type} (f : α → α) : Nat → α → α
  | 0, x => x
  | n + 1, x => f (turns f n x)
theorem turns_fix {f : List Nat → List Nat} (P : List Nat → Prop) (hP : ∀ x, P x → P (f x)) (hgrow : ∀ x, P x → x <+: f x) {B : Nat} (hB : ∀ x, P x → x.length ≤ B) :
    ∀ (n : Nat) (x : List Nat), P x → P (turns f n x) ∧ (f (turns f n x) = turns f n x ∨ x.length + n ≤ (turns f n x).length)
  | 0, x, h => ⟨h, .inr (by simp [turns])⟩
  | n + 1, x, h => by
    obtain ⟨h1, h2⟩ := turns_fix P hP hgrow hB n x h
    refine ⟨hP _ h1, ?_⟩
    show f (f (turns f n x)) = f (turns f n x) ∨ _ ≤ (f (turns f n x)).length
    rcases h2 with h2 | h2
    · exact .inl (by rw [h2, h2])
    · by_cases e : f (turns f n x) = turns f n x
      · exact .inl (by rw [e, e])
      · right
        have hp := hgrow _ h1
        have h3 := hp.length_le
        have h4 : (turns f n x).length ≠ (f (turns f n x)).length := fun q => e (hp.eq_of_length q).symm
        omega
def liveB (names : List Nat) (b : List Nat) : Bool := (namesIn b).all fun c => decide (c ∈ names)
theorem liveB_iff {names b : List Nat} : liveB names b = true ↔ ∀ c ∈ namesIn b, c ∈ names := by
  unfold liveB
  rw [List.all_eq_true]
  exact ⟨fun h c hc => of_decide_eq_true (h c hc), fun h c hc => decide_eq_true (h c hc)⟩
def lvStep (live : List Nat) (r : Rule) : List Nat := if r.1 ∉ live ∧ liveB live r.2 = true then live ++ [r.1] else live
def lvTurn (rules : List Rule) (live : List Nat) : List Nat := rules.foldl lvStep live
def lawLive (rules : List Rule) : List Nat := turns (lvTurn rules) rules.length []
theorem lvStep_pre {live : List Nat} {r : Rule} : live <+: lvStep live r := by
  unfold lvStep
  split
  · exact List.prefix_append _ _
  · exact List.prefix_refl _
theorem foldl_pre {α : Type} {f : List Nat → α → List Nat} (hf : ∀ x a, x <+: f x a) : ∀ (l : List α) (x : List Nat), x <+: l.foldl f x
  | [], x => List.prefix_refl _
  | a :: l, x => (hf x a).trans (foldl_pre hf l (f x a))
/-- a step that changes nothing over the whole list changes nothing at each item -/
theorem foldl_same {α : Type} {f : List Nat → α → List Nat} (hf : ∀ x a, x <+: f x a) : ∀ {l : List α} {x : List Nat}, l.foldl f x = x → ∀ a ∈ l, f x a = x
  | [], _, _, a, ha => by cases ha
  | b :: l, x, h, a, ha => by
    have h1 := hf x b
    have h2 := foldl_pre hf l (f x b)
    have hb : f x b = x := by
      have h3 : (l.foldl f (f x b)) = x := h
      rw [h3] at h2
      exact (h2.eq_of_length_le h1.length_le)
    rcases List.mem_cons.mp ha with rfl | ha
    · exact hb
    · have h3 : l.foldl f (f x b) = x := h
      rw [hb] at h3
      exact foldl_same hf h3 a ha
section
variable {rules : List Rule}
/-- live names: distinct heads -/
def LvP (rules : List Rule) (live : List Nat) : Prop := live.Nodup ∧ (∀ c ∈ live, c ∈ rules.map (·.1)) ∧ ∀ c ∈ live, ∃ w, DerW rules [c] w
theorem der_of_names {b : List Nat} (h : ∀ c ∈ namesIn b, ∃ w, DerW rules [c] w) : ∃ w, DerW rules b w := by
  induction b with
  | nil => exact ⟨[], .nil⟩
  | cons c b ih =>
    obtain ⟨w, d⟩ := ih fun x hx => h x (by
      unfold namesIn at hx ⊢
      rw [List.filter_cons]
      split
      · exact List.mem_cons_of_mem _ hx
      · exact hx)
    by_cases hn : nam c = true
    · obtain ⟨w1, d1⟩ := h c (by unfold namesIn; rw [List.filter_cons, if_pos hn]; exact List.mem_cons_self)
      exact ⟨_, d1.app d⟩
    · exact ⟨_, .sign (by simpa using hn) d⟩
theorem lvStep_ok (hr : RulesOk rules) {live : List Nat} {r : Rule} (hm : r ∈ rules) (h : LvP rules live) : LvP rules (lvStep live r) := by
  unfold lvStep
  split
  · rename_i hc
    refine ⟨?_, fun c hx => ?_, fun c hx => ?_⟩
    · rw [List.nodup_append]
      exact ⟨h.1, by simp, fun x hx y hy => by simp at hy; subst hy; exact fun e => hc.1 (e ▸ hx)⟩
    · rcases List.mem_append.mp hx with z | z
      · exact h.2.1 c z
      · simp at z
        subst z
        exact List.mem_map_of_mem hm
    · rcases List.mem_append.mp hx with z | z
      · exact h.2.2 c z
      · simp at z
        subst z
        obtain ⟨w, d⟩ := der_of_names (rules := rules) fun x hx => h.2.2 x (liveB_iff.mp hc.2 x hx)
        exact ⟨_, .name hm (hr r hm).1 d .nil⟩
  · exact h
theorem foldl_keep {α β : Type} {f : β → α → β} (P : β → Prop) : ∀ {l : List α}, (∀ x, ∀ a ∈ l, P x → P (f x a)) → ∀ {x : β}, P x → P (l.foldl f x)
  | [], _, _, h => h
  | a :: l, hf, x, h => foldl_keep P (l := l) (fun x b hb => hf x b (List.mem_cons_of_mem _ hb)) (hf x a List.mem_cons_self h)
theorem lawLive_ok (hr : RulesOk rules) : LvP rules (lawLive rules) ∧ ∀ r ∈ rules, liveB (lawLive rules) r.2 = true → r.1 ∈ lawLive rules := by
  have hlen : ∀ x, LvP rules x → x.length ≤ rules.length := fun x h => by
    have := nodup_le h.1 h.2.1
    rwa [List.length_map] at this
  obtain ⟨h1, h2⟩ := turns_fix (f := lvTurn rules) (LvP rules) (fun x h => foldl_keep (LvP rules) (fun y r hm hy => lvStep_ok hr hm hy) h) (fun x _ => foldl_pre (fun _ _ => lvStep_pre) rules x) hlen rules.length []
    ⟨List.nodup_nil, fun c h => (by cases h), fun c h => (by cases h)⟩
  refine ⟨h1, fun r hm hl => ?_⟩
  rcases h2 with h2 | h2
  · have := foldl_same (fun _ _ => lvStep_pre) h2 r hm
    show r.1 ∈ turns (lvTurn rules) rules.length []
    unfold lvStep at this
    by_cases hc : r.1 ∈ turns (lvTurn rules) rules.length []
    · exact hc
    · rw [if_pos ⟨hc, hl⟩] at this
      have := congrArg List.length this
      simp at this
  · have h3 : (turns (lvTurn rules) rules.length []).length = (rules.map (·.1)).length := by
      have := hlen _ h1
      rw [List.length_map]
      simp at h2
      have h2' : rules.length ≤ (turns (lvTurn rules) rules.length []).length := h2
      have : (turns (lvTurn rules) rules.length []).length ≤ rules.length := this
      omega
    by_cases hc : r.1 ∈ turns (lvTurn rules) rules.length []
    · exact hc
    · have hn := nodup_le (l := r.1 :: turns (lvTurn rules) rules.length []) (s := rules.map (·.1)) (List.nodup_cons.mpr ⟨hc, h1.1⟩) (fun x hx => by
        rcases List.mem_cons.mp hx with rfl | hx
        · exact List.mem_map_of_mem hm
        · exact h1.2.1 x hx)
      rw [List.length_cons] at hn
      omega
/-- the live names are those with lengths -/
theorem lawLive_lens (hr : RulesOk rules) (c : Nat) (hc : nam c = true) : c ∈ lawLive rules ↔ (aGet (leastLengths rules) c).isSome = true := by
  obtain ⟨h1, h2⟩ := lawLive_ok hr
  constructor
  · intro h
    obtain ⟨w, d⟩ := h1.2.2 c h
    exact (allIn_cons.mp (ll_least hr d).1).1 hc
  · intro h
    cases q : aGet (leastLengths rules) c with
    | none => rw [q] at h; cases h
    | some x =>
      obtain ⟨w, d, _⟩ := ll_sound hr c x q
      have key : ∀ {b w : List Nat}, DerW rules b w → ∀ x ∈ namesIn b, x ∈ lawLive rules := by
        intro b w d
        induction d with
        | nil => intro x hx; cases hx
        | sign hs _ ih =>
          intro x hx
          unfold namesIn at hx
          rw [List.filter_cons, if_neg (by rw [hs]; exact Bool.false_ne_true)] at hx
          exact ih x hx
        | name hm hn _ _ ih1 ih2 =>
          intro x hx
          unfold namesIn at hx
          rw [List.filter_cons, if_pos hn] at hx
          rcases List.mem_cons.mp hx with rfl | hx
          · exact h2 _ hm (liveB_iff.mpr ih1)
          · exact ih2 x hx
      exact key d c (by unfold namesIn; rw [List.filter_cons, if_pos hc]; exact List.mem_cons_self)
theorem liveB_allIn (hr : RulesOk rules) (b : List Nat) : liveB (lawLive rules) b = allIn (leastLengths rules) b := by
  rw [Bool.eq_iff_iff, liveB_iff]
  unfold allIn
  rw [List.all_eq_true]
  constructor
  · intro h c hc
    exact (lawLive_lens hr c (List.mem_filter.mp hc).2).mp (h c hc)
  · intro h c hc
    exact (lawLive_lens hr c (List.mem_filter.mp hc).2).mpr (h c hc)
/-! ### the good names -/
def gdPart (good : List Nat) (c : Nat) : List Nat := if nam c = true ∧ c ∉ good then good ++ [c] else good
def gdStep (live : List Nat) (good : List Nat) (r : Rule) : List Nat := if r.1 ∈ good ∧ liveB live r.2 = true then r.2.foldl gdPart good else good
def gdTurn (rules : List Rule) (live : List Nat) (good : List Nat) : List Nat := rules.foldl (gdStep live) good
def lawGood (rules : List Rule) (root : Nat) : List Nat := turns (gdTurn rules (lawLive rules)) rules.length [root]
def lawUseful (rules : List Rule) (root : Nat) : List Nat := (List.range rules.length).filter fun k => match rules[k]? with
  | none => false
  | some r => decide (r.1 ∈ lawGood rules root) && liveB (lawLive rules) r.2
theorem gdPart_pre {good : List Nat} {c : Nat} : good <+: gdPart good c := by
  unfold gdPart
  split
  · exact List.prefix_append _ _
  · exact List.prefix_refl _
theorem gdStep_pre {live good : List Nat} {r : Rule} : good <+: gdStep live good r := by
  unfold gdStep
  split
  · exact foldl_pre (fun _ _ => gdPart_pre) r.2 good
  · exact List.prefix_refl _
theorem gdParts_mem : ∀ {b good : List Nat}, ∀ c ∈ namesIn b, c ∈ b.foldl gdPart good
  | [], _, c, hc => by cases hc
  | a :: b, good, c, hc => by
    rw [List.foldl_cons]
    unfold namesIn at hc
    rw [List.filter_cons] at hc
    by_cases hn : nam a = true
    · rw [if_pos hn] at hc
      rcases List.mem_cons.mp hc with rfl | hc
      · refine (foldl_pre (fun _ _ => gdPart_pre) b (gdPart good c)).subset ?_
        unfold gdPart
        by_cases hg : c ∈ good
        · rw [if_neg (fun z => z.2 hg)]; exact hg
        · rw [if_pos ⟨hn, hg⟩]; simp
      · exact gdParts_mem c hc
    · rw [if_neg hn] at hc
      exact gdParts_mem c hc
/-- a set of names that holds the root and is closed -/
def GdP (rules : List Rule) (root : Nat) (good : List Nat) : Prop := good.Nodup ∧ root ∈ good ∧ ∀ c ∈ good, c ∈ reached rules root (leastLengths rules)
theorem gdStep_ok (hr : RulesOk rules) {root : Nat} (hroot : nam root = true) {good : List Nat} {r : Rule} (hm : r ∈ rules) (h : GdP rules root good) : GdP rules root (gdStep (lawLive rules) good r) := by
  unfold gdStep
  split
  · rename_i hc
    have hall : allIn (leastLengths rules) r.2 = true := by rw [← liveB_allIn hr]; exact hc.2
    have hcl := (reached_ok (rules := rules) (lens := leastLengths rules) hroot).2.2 r.1 (h.2.2 r.1 hc.1) r hm rfl hall
    refine foldl_keep (GdP rules root) (fun x c hcm hx => ?_) h
    unfold gdPart
    split
    · rename_i hq
      refine ⟨?_, List.mem_append_left _ hx.2.1, fun y hy => ?_⟩
      · rw [List.nodup_append]
        exact ⟨hx.1, by simp, fun a ha b hb => by simp at hb; subst hb; exact fun e => hq.2 (e ▸ ha)⟩
      · rcases List.mem_append.mp hy with z | z
        · exact hx.2.2 y z
        · simp at z
          subst z
          exact hcl y (List.mem_filter.mpr ⟨hcm, hq.1⟩)
    · exact hx
  · exact h
theorem ureach_least {α : Type} {lens : List (Nat × α)} {G : List Nat} (hG : ∀ c ∈ G, ClosedAt rules lens G c) : ∀ (n : Nat) (re : List Nat) (i : Nat), (∀ c ∈ re, c ∈ G) → ∀ c ∈ ureach rules lens n re i, c ∈ G
  | 0, re, i, h => h
  | n + 1, re, i, h => by
    cases q : re[i]? with
    | none => rw [ureach_none q]; exact h
    | some c =>
      rw [ureach_some q]
      refine ureach_least hG n _ (i + 1) ?_
      have hc := h c (List.mem_of_getElem? q)
      refine foldl_keep (fun x : List Nat => ∀ y ∈ x, y ∈ G) (fun x r hm hx => ?_) h
      unfold uStep
      split
      · rename_i hr
        intro y hy
        rcases List.mem_append.mp hy with z | z
        · exact hx y z
        · exact hG c hc r hm hr.1 hr.2 y (sortedNames_mem.mp (List.mem_filter.mp z).1)
      · exact hx
theorem lawGood_ok (hr : RulesOk rules) {root : Nat} (hroot : nam root = true) (hhere : root ∈ rules.map (·.1)) (c : Nat) : c ∈ lawGood rules root ↔ c ∈ reached rules root (leastLengths rules) := by
  have hheads : ∀ x, GdP rules root x → x.length ≤ rules.length ∨ True := fun _ _ => .inr trivial
  have hre := reached_ok (rules := rules) (lens := leastLengths rules) hroot
  -- the reached names but the root are heads: they have lengths
  have hhead : ∀ c ∈ reached rules root (leastLengths rules), c ∈ rules.map (·.1) := by
    have hlens : ∀ c ∈ reached rules root (leastLengths rules), c = root ∨ c ∈ rules.map (·.1) := ureach_least (G := (root :: rules.map (·.1))) (fun c hc r hm hrc hal x hx => by
      have hx2 := List.all_eq_true.mp hal x hx
      cases q : aGet (leastLengths rules) x with
      | none => rw [q] at hx2; cases hx2
      | some y =>
        obtain ⟨w, d, _⟩ := ll_sound hr x y q
        obtain ⟨c0, hc0⟩ : ∃ c0, c0 = x := ⟨_, rfl⟩
        rw [← hc0] at d
        have hnx := (List.mem_filter.mp hx).2
        cases d with
        | sign hs _ => rw [hc0, hnx] at hs; cases hs
        | name hm2 _ _ _ => exact List.mem_cons_of_mem _ (hc0 ▸ List.mem_map_of_mem hm2)) 27 [root] 0 (fun c hc => by simp at hc; subst hc; exact List.mem_cons_self) |> fun h c hc => List.mem_cons.mp (h c hc)
    intro c hc
    rcases hlens c hc with rfl | h
    · exact hhere
    · exact h
  have hlen : ∀ x, GdP rules root x → x.length ≤ rules.length := fun x h => by
    have := nodup_le h.1 (s := rules.map (·.1)) fun c hc => hhead c (h.2.2 c hc)
    rwa [List.length_map] at this
  obtain ⟨h1, h2⟩ := turns_fix (f := gdTurn rules (lawLive rules)) (GdP rules root) (fun x h => foldl_keep (GdP rules root) (fun y r hm hy => gdStep_ok hr hroot hm hy) h) (fun x _ => foldl_pre (fun _ _ => gdStep_pre) rules x) hlen rules.length [root]
    ⟨by simp, by simp, fun c h => by simp at h; subst h; exact hre.1⟩
  constructor
  · exact h1.2.2 c
  · refine ureach_least (fun c hc r hm hrc hal x hx => ?_) 27 [root] 0 (fun y hy => by simp at hy; subst hy; exact h1.2.1) c
    rcases h2 with h2 | h2
    · have h3 := foldl_same (fun _ _ => gdStep_pre) h2 r hm
      unfold gdStep at h3
      rw [if_pos ⟨by rw [hrc]; exact hc, by rw [liveB_allIn hr]; exact hal⟩] at h3
      have h4 := gdParts_mem (good := turns (gdTurn rules (lawLive rules)) rules.length [root]) x hx
      rw [h3] at h4
      exact h4
    · have := hlen _ h1
      simp at h2
      have h2' : 1 + rules.length ≤ (turns (gdTurn rules (lawLive rules)) rules.length [root]).length := by simpa [Nat.add_comm] using h2
      omega
/-- the law's useful numbers are the program's -/
theorem lawUseful_eq (hr : RulesOk rules) {root : Nat} (hroot : nam root = true) (hhere : root ∈ rules.map (·.1)) : lawUseful rules root = usefulNumbers rules root (leastLengths rules) := by
  have hg := lawGood_ok hr hroot hhere
  unfold lawUseful usefulNumbers
  have key : ∀ (l : List Rule) (k : Nat) (p : Rule → Bool), (l.zipIdx k |>.filter fun q => p q.1).map (·.2) = (List.range' k l.length).filter fun i => match l[i - k]? with
      | none => false
      | some r => p r := by
    intro l
    induction l with
    | nil => intro k p; rfl
    | cons a l ih =>
      intro k p
      rw [List.zipIdx_cons, List.length_cons, List.range'_succ, List.filter_cons, List.filter_cons]
      have h1 : (match (a :: l)[k - k]? with | none => false | some r => p r) = p a := by rw [Nat.sub_self]; rfl
      have h2 : (List.range' (k + 1) l.length).filter (fun i => match (a :: l)[i - k]? with | none => false | some r => p r) = (List.range' (k + 1) l.length).filter (fun i => match l[i - (k + 1)]? with | none => false | some r => p r) := by
        apply List.filter_congr
        intro i hi
        have hi2 := (List.mem_range'_1.mp hi).1
        have e : i - k = (i - (k + 1)) + 1 := by omega
        rw [e, List.getElem?_cons_succ]
      have h1' : (match (a :: l)[k - k]? with | none => false | some r => p r) = p (a, k).1 := h1
      rw [h1', h2]
      by_cases hp : p a = true
      · rw [if_pos hp, if_pos hp, List.map_cons, ih (k + 1) p]
      · rw [if_neg hp, if_neg hp, ih (k + 1) p]
  have := key rules 0 (fun r => usefulAt (reached rules root (leastLengths rules)) (leastLengths rules) r)
  rw [show (rules.zipIdx.filter fun q => usefulAt (reached rules root (leastLengths rules)) (leastLengths rules) q.1).map (·.2) = _ from this, List.range_eq_range']
  apply List.filter_congr
  intro i _
  rw [Nat.sub_zero]
  cases rules[i]? with
  | none => rfl
  | some r =>
    show (decide _ && _) = usefulAt _ _ _
    unfold usefulAt
    rw [liveB_allIn hr]
    congr 1
    exact decide_eq_decide.mpr (hg r.1)
end
end SF
namespace SF
/-- what holds of the empty best and is kept by each entry holds of the best -/
theorem best_keep {g : Gram} (h : PreOk g) (P : Best → Prop) (h0 : P []) (hP : ∀ (m : Best) (r : Rule) (n : Nat), P m → LDok g.lens m → RuOk g.lens r → r ∈ g.rules → ldDue g.lens m r = true → ldBetter m r = true → P (aPut m r.1 ⟨ldSteps m r.2, ldWord m r.2, n⟩)) : P g.best := by
  have step : ∀ (st : Best × Bool) (n : Nat), n ∈ g.useful → (P st.1 ∧ LDok g.lens st.1) → (P (ldStep g.rules g.lens st n).1 ∧ LDok g.lens (ldStep g.rules g.lens st n).1) := fun st n hn hp => by
    obtain ⟨r, hr, hro⟩ := h.rule hn
    by_cases hd : ldDue g.lens st.1 r = true
    · by_cases hb : ldBetter st.1 r = true
      · rw [ldStep_yes hr hd hb]
        exact ⟨hP st.1 r n hp.1 hp.2 hro (List.mem_of_getElem? hr) hd hb, hp.2.put hro hd hb n⟩
      · rw [ldStep_no2 hr (by simpa using hb)]; exact hp
    · rw [ldStep_no hr (by simpa using hd)]; exact hp
  have round : ∀ m : Best, (P m ∧ LDok g.lens m) → (P (ldRound g.rules g.lens g.useful m).1 ∧ LDok g.lens (ldRound g.rules g.lens g.useful m).1) := fun m hm =>
    foldl_keep (fun st : Best × Bool => P st.1 ∧ LDok g.lens st.1) (fun st n hn hp => step st n hn hp) (x := (m, false)) hm
  have all : ∀ (n : Nat) (m : Best), (P m ∧ LDok g.lens m) → P (rounds (ldRound g.rules g.lens g.useful) n m) := by
    intro n
    induction n with
    | zero => intro m hm; exact hm.1
    | succ n ih =>
      intro m hm
      have h2 := round m hm
      unfold rounds
      split
      · exact ih _ h2
      · exact h2.1
  exact all _ _ ⟨h0, LDok.nil _⟩
/-- the rules that such a list may have -/
inductive WdRu (names : List Nat) (nv ap w0 w1 w2 : Nat) : Rule → Prop
  | inner {r} : RuD names r → WdRu names nv ap w0 w1 w2 r
  | never : WdRu names nv ap w0 w1 w2 (nv, [122, nv])
  | needs : WdRu names nv ap w0 w1 w2 (dg names 0, [121, nv])
  | apart {c} : sgn c = true → WdRu names nv ap w0 w1 w2 (ap, [c])
  | way : WdRu names nv ap w0 w1 w2 (dg names 0, [w0])
  | way0 : WdRu names nv ap w0 w1 w2 (w0, [w1])
  | way1 : WdRu names nv ap w0 w1 w2 (w1, [w2])
  | way2 : WdRu names nv ap w0 w1 w2 (w2, [113])
  | more {b} : b.length ≤ 4 → (∀ c ∈ b, sgn c = true) → WdRu names nv ap w0 w1 w2 (dg names 0, b)
structure Wd (names : List Nat) (nv ap w0 w1 w2 : Nat) (rules : List Rule) : Prop where
  ru : ∀ r ∈ rules, WdRu names nv ap w0 w1 w2 r
  en : ∃ r ∈ rules, r.1 = dg names 0 ∧ r.2.length ≤ 2 ∧ ∀ c ∈ r.2, sgn c = true
  nn : ∀ c ∈ names, nam c = true
  one : 1 ≤ names.length
  three : names.length ≤ 3
  news : ∀ c ∈ [nv, ap, w0, w1, w2], nam c = true ∧ c ∉ names
  dist : [nv, ap, w0, w1, w2].Nodup
section
variable {names : List Nat} {nv ap w0 w1 w2 : Nat} {rules : List Rule}
theorem Wd.rok (h : Wd names nv ap w0 w1 w2 rules) : RulesOk rules := fun r hr => by
  have hroot : nam (dg names 0) = true := h.nn _ (dg_mem h.one)
  have n1 := (h.news nv (by simp)).1
  have n2 := (h.news ap (by simp)).1
  have n3 := (h.news w0 (by simp)).1
  have n4 := (h.news w1 (by simp)).1
  have n5 := (h.news w2 (by simp)).1
  have s1 : sgn 122 = true := by decide
  have s2 : sgn 121 = true := by decide
  have s3 : sgn 120 = true := by decide
  have s4 : sgn 113 = true := by decide
  cases h.ru r hr with
  | inner q =>
    refine ⟨h.nn _ q.hd, q.few, fun c hc => ?_⟩
    rw [Bool.or_eq_true]
    rcases q.bd c hc with z | z
    · exact .inl z
    · exact .inr (h.nn c z)
  | never => exact ⟨n1, by simp, fun c hc => by simp at hc; rcases hc with rfl | rfl <;> simp [*]⟩
  | needs => exact ⟨hroot, by simp, fun c hc => by simp at hc; rcases hc with rfl | rfl <;> simp [*]⟩
  | apart hs => exact ⟨n2, by simp, fun c hc => by simp at hc; subst hc; simp [*]⟩
  | way => exact ⟨hroot, by simp, fun c hc => by simp at hc; subst hc; simp [*]⟩
  | way0 => exact ⟨n3, by simp, fun c hc => by simp at hc; subst hc; simp [*]⟩
  | way1 => exact ⟨n4, by simp, fun c hc => by simp at hc; subst hc; simp [*]⟩
  | way2 => exact ⟨n5, by simp, fun c hc => by simp at hc; subst hc; simp [*]⟩
  | more hb hs => exact ⟨hroot, hb, fun c hc => by rw [hs c hc]; rfl⟩
theorem nam_one {c : Nat} (h : nam c = true) : namesIn [c] = [c] := by unfold namesIn; rw [List.filter_cons, if_pos h]; rfl
theorem total_one {lens : List (Nat × Nat)} {c : Nat} (h : nam c = true) : total lens [c] = (aGet lens c).getD 0 := by
  rw [total_cons, if_pos h]; show _ + 0 = _; omega
def cntW (names : List Nat) (l : List Nat) : Nat := (l.filter fun x => decide (x ∈ names ∧ x ≠ dg names 0)).length
theorem cntW_mono {l m : List Nat} (h : l <+: m) : cntW names l ≤ cntW names m := List.Sublist.length_le (List.Sublist.filter _ h.sublist)
theorem Wd.root (h : Wd names nv ap w0 w1 w2 rules) : ∃ x, aGet (leastLengths rules) (dg names 0) = some x ∧ x ≤ 2 := by
  obtain ⟨r, hr, e1, e2, e3⟩ := h.en
  have hnn := no_names e3
  obtain ⟨x, hx, hle⟩ := ll_fix h.rok hr (by unfold allIn; rw [hnn]; rfl)
  rw [e1] at hx
  refine ⟨x, hx, ?_⟩
  unfold total at hle
  rw [hnn] at hle
  simp at hle
  omega
theorem Wd.bound (h : Wd names nv ap w0 w1 w2 rules) : ∀ i c, ((leastLengths rules).map (·.1))[i]? = some c → (aGet (leastLengths rules) c).getD 0 ≤ 2 * 3 ^ cntW names (((leastLengths rules).map (·.1)).take (i + 1)) := by
  have hrok := h.rok
  have hrk := ll_ranked rules
  have hll := (ll_fin hrok).1
  obtain ⟨x0, hx0, hle0⟩ := h.root
  intro i
  induction i using Nat.strongRecOn with
  | _ i ih =>
    intro c hc
    have hpos : ∀ n, 1 ≤ 3 ^ n := fun n => Nat.pow_pos (by decide)
    by_cases e : c = dg names 0
    · subst e
      rw [hx0]
      have := hpos (cntW names (((leastLengths rules).map (·.1)).take (i + 1)))
      show x0 ≤ _
      omega
    · obtain ⟨r, hr, e1, e2⟩ := hrk i c hc
      have hal : allIn (leastLengths rules) r.2 = true := List.all_eq_true.mpr fun x hx => by
        have := List.mem_of_mem_take (e2 x hx)
        cases q : aGet (leastLengths rules) x with
        | none => exact absurd this (aGet_none.mp q)
        | some y => rfl
      obtain ⟨x, hx, hle⟩ := ll_fix hrok hr hal
      rw [e1] at hx
      rw [hx]
      show x ≤ _
      have earlier : ∀ y ∈ namesIn r.2, (aGet (leastLengths rules) y).getD 0 ≤ 2 * 3 ^ cntW names (((leastLengths rules).map (·.1)).take i) := fun y hy => by
        obtain ⟨j, hj⟩ := List.mem_iff_getElem?.mp (e2 y hy)
        have hji : j < i := by
          have := (List.getElem?_eq_some_iff.mp hj).1
          rw [List.length_take] at this
          omega
        rw [List.getElem?_take, if_pos hji] at hj
        exact Nat.le_trans (ih j hji y hj) (Nat.mul_le_mul_left _ (Nat.pow_le_pow_right (by decide) (cntW_mono (List.take_prefix_take_left (show j + 1 ≤ i by omega)))))
      have htk : ((leastLengths rules).map (·.1)).take (i + 1) = ((leastLengths rules).map (·.1)).take i ++ [c] := by
        rw [List.take_add_one, hc]
        rfl
      have hup : 2 * 3 ^ cntW names (((leastLengths rules).map (·.1)).take i) ≤ 2 * 3 ^ cntW names (((leastLengths rules).map (·.1)).take (i + 1)) := by
        rw [htk]
        exact Nat.mul_le_mul_left _ (Nat.pow_le_pow_right (by decide) (cntW_mono (List.prefix_append _ _)))
      have hp1 := hpos (cntW names (((leastLengths rules).map (·.1)).take (i + 1)))
      cases h.ru r hr with
      | inner q =>
        have h3 : r.2.length ≤ 3 := q.less (by rw [e1]; exact e)
        have hcn : c ∈ names := e1 ▸ q.hd
        have hstep : cntW names (((leastLengths rules).map (·.1)).take (i + 1)) = cntW names (((leastLengths rules).map (·.1)).take i) + 1 := by
          rw [htk]
          unfold cntW
          rw [List.filter_append, List.length_append]
          simp [hcn, e]
        rw [hstep, Nat.pow_succ]
        have hB := total_bound (lens := leastLengths rules) (B := 2 * 3 ^ cntW names (((leastLengths rules).map (·.1)).take i)) (by have := hpos (cntW names (((leastLengths rules).map (·.1)).take i)); omega) (b := r.2) earlier
        have h4 := Nat.mul_le_mul_right (2 * 3 ^ cntW names (((leastLengths rules).map (·.1)).take i)) h3
        omega
      | never =>
        have hnv : nam nv = true := (h.news nv (by simp)).1
        have hm : nv ∈ ((leastLengths rules).map (·.1)).take i := e2 nv (by unfold namesIn; simp [hnv])
        have e1' : nv = c := e1
        subst e1'
        exfalso
        obtain ⟨j, hj⟩ := List.mem_iff_getElem?.mp hm
        have hji : j < i := by
          have := (List.getElem?_eq_some_iff.mp hj).1
          rw [List.length_take] at this
          omega
        rw [List.getElem?_take, if_pos hji] at hj
        have hn := hll.nd
        rw [List.nodup_iff_pairwise_ne] at hn
        have h1 := (List.getElem?_eq_some_iff.mp hj)
        have h2 := (List.getElem?_eq_some_iff.mp hc)
        have := List.pairwise_iff_getElem.mp hn j i h1.1 h2.1 hji
        exact this (h1.2.trans h2.2.symm)
      | needs => exact absurd e1.symm e
      | way => exact absurd e1.symm e
      | more _ _ => exact absurd e1.symm e
      | @apart c hs =>
        have : total (leastLengths rules) [c] = 1 := by rw [total_cons, if_neg (by rw [sgn_not_nam hs]; decide)]; rfl
        have hle' : x ≤ total (leastLengths rules) [c] := hle
        omega
      | way2 =>
        have : total (leastLengths rules) [113] = 1 := by rw [total_cons, if_neg (by decide)]; rfl
        have hle' : x ≤ total (leastLengths rules) [113] := hle
        omega
      | way0 =>
        have hn := (h.news w1 (by simp)).1
        have h5 := earlier w1 (by show w1 ∈ namesIn [w1]; rw [nam_one hn]; simp)
        have hle' : x ≤ total (leastLengths rules) [w1] := hle
        rw [total_one hn] at hle'
        omega
      | way1 =>
        have hn := (h.news w2 (by simp)).1
        have h5 := earlier w2 (by show w2 ∈ namesIn [w2]; rw [nam_one hn]; simp)
        have hle' : x ≤ total (leastLengths rules) [w2] := hle
        rw [total_one hn] at hle'
        omega
theorem Wd.short (h : Wd names nv ap w0 w1 w2 rules) (c : Nat) : (aGet (leastLengths rules) c).getD 0 ≤ 24 := by
  have hll := (ll_fin h.rok).1
  cases q : aGet (leastLengths rules) c with
  | none => simp
  | some x =>
    have hc : c ∈ (leastLengths rules).map (·.1) := Decidable.byContradiction fun z => by rw [aGet_none.mpr z] at q; cases q
    obtain ⟨i, hi⟩ := List.mem_iff_getElem?.mp hc
    have hb := h.bound i c hi
    rw [q] at hb
    have hcnt : cntW names (((leastLengths rules).map (·.1)).take (i + 1)) ≤ 2 := by
      have h1 := nodup_le (l := (((leastLengths rules).map (·.1)).take (i + 1)).filter fun x => decide (x ∈ names ∧ x ≠ dg names 0)) (s := names.erase (dg names 0)) (List.Pairwise.filter _ (hll.nd.sublist (List.take_sublist _ _))) (fun y hy => by
        have h2 := of_decide_eq_true (List.mem_filter.mp hy).2
        exact (List.mem_erase_of_ne h2.2).mpr h2.1)
      rw [List.length_erase_of_mem (dg_mem h.one)] at h1
      have := h.three
      unfold cntW
      omega
    have h3 := Nat.pow_le_pow_right (show 0 < 3 by decide) hcnt
    have hb' : x ≤ 2 * 3 ^ _ := hb
    show x ≤ 24
    omega
/-! ### steps -/
def gN : Nat → Nat
  | 0 => 0
  | k + 1 => 4 + 4 * gN k
theorem gN_mono : ∀ {a b : Nat}, a ≤ b → gN a ≤ gN b
  | a, 0, h => by
    have : a = 0 := by omega
    subst this
    exact Nat.le_refl _
  | a, b + 1, h => by
    rcases Nat.lt_or_ge a (b + 1) with h1 | h1
    · have := gN_mono (a := a) (b := b) (by omega)
      show _ ≤ 4 + 4 * gN b
      omega
    · have : a = b + 1 := by omega
      subst this
      exact Nat.le_refl _
def cntN (names : List Nat) (m : Best) : Nat := ((m.map (·.1)).filter fun x => decide (x ∈ names)).length
/-- the steps that a name may have -/
def StP (names : List Nat) (w0 w1 w2 : Nat) (m : Best) : Prop := ∀ c t, aGet m c = some t → (c ∈ names → t.a ≤ gN (cntN names m)) ∧ (c ∉ names → t.a ≤ if c = w0 then 3 else if c = w1 then 2 else 1)
theorem cntN_put {m : Best} {k : Nat} {x : Tri Nat (List Nat) Nat} : cntN names (aPut m k x) = cntN names m + (if k ∈ names ∧ (aGet m k).isSome = false then 1 else 0) := by
  unfold cntN
  rw [aPut_keys]
  cases hs : (aGet m k).isSome with
  | true => rw [if_pos rfl, if_neg (fun z => by cases z.2)]; rfl
  | false =>
    rw [if_neg Bool.false_ne_true, List.filter_append, List.length_append]
    by_cases hk : k ∈ names
    · rw [if_pos ⟨hk, rfl⟩]; simp [hk]
    · rw [if_neg (fun z => hk z.1)]; simp [hk]
theorem StP.part {w0 w1 w2 : Nat} {m : Best} (h : StP names w0 w1 w2 m) (c : Nat) : (c ∈ names → bS m c ≤ gN (cntN names m)) ∧ (c ∉ names → bS m c ≤ if c = w0 then 3 else if c = w1 then 2 else 1) := by
  unfold bS
  cases q : aGet m c with
  | none => exact ⟨fun _ => Nat.zero_le _, fun _ => Nat.zero_le _⟩
  | some t => exact h c t q
theorem steps_one {m : Best} {c : Nat} (h : nam c = true) : ldSteps m [c] = 1 + bS m c := by
  unfold ldSteps
  rw [nam_one h]
  simp
theorem steps_none {m : Best} {b : List Nat} (h : ∀ c ∈ b, sgn c = true) : ldSteps m b = 1 := by
  unfold ldSteps
  rw [no_names h]
  rfl
theorem Wd.step (h : Wd names nv ap w0 w1 w2 rules) {m : Best} {r : Rule} {n : Nat} (hp : StP names w0 w1 w2 m) (hm : r ∈ rules) (hd : allIn m r.2 = true) (hb : ldBetter m r = true) : StP names w0 w1 w2 (aPut m r.1 ⟨ldSteps m r.2, ldWord m r.2, n⟩) := by
  intro c t ht
  rw [aGet_put] at ht
  by_cases e : c = r.1
  · subst e
    rw [if_pos rfl] at ht
    cases ht
    rw [cntN_put]
    cases q : aGet m r.1 with
    | some t0 =>
      unfold ldBetter at hb
      rw [q] at hb
      have hle : ldSteps m r.2 ≤ t0.a := swL_le hb
      have h0 := hp r.1 t0 q
      rw [if_neg (fun z => by cases z.2)]
      exact ⟨fun z => Nat.le_trans hle (h0.1 z), fun z => Nat.le_trans hle (h0.2 z)⟩
    | none =>
      have d := h.dist
      simp only [List.nodup_cons, List.mem_cons, List.not_mem_nil, or_false, not_or, not_false_eq_true, List.nodup_nil, and_true] at d
      obtain ⟨⟨d1, d2, d3, d4⟩, ⟨d5, d6, d7⟩, ⟨d8, d9⟩, d10⟩ := d
      have hbase : dg names 0 ∈ names := dg_mem h.one
      have k1 := h.news nv (by simp)
      have k2 := h.news ap (by simp)
      have k3 := h.news w0 (by simp)
      have k4 := h.news w1 (by simp)
      have k5 := h.news w2 (by simp)
      have hone : ∀ c, (1 : Nat) ≤ if c = w0 then 3 else if c = w1 then 2 else 1 := fun c => by split <;> (try split) <;> omega
      show (r.1 ∈ names → ldSteps m r.2 ≤ _) ∧ (r.1 ∉ names → ldSteps m r.2 ≤ _)
      cases h.ru r hm with
      | inner hq =>
        refine ⟨fun z => ?_, fun z => absurd hq.hd z⟩
        rw [if_pos ⟨z, rfl⟩]
        show ldSteps m r.2 ≤ 4 + 4 * gN (cntN names m)
        unfold ldSteps
        have h2 := sum_le_mul (bS m) (gN (cntN names m)) (namesIn r.2) fun c hc => by
          have hcm := List.mem_filter.mp hc
          rcases hq.bd c hcm.1 with w | w
          · rw [sgn_not_nam w] at hcm; exact absurd hcm.2 Bool.false_ne_true
          · exact (hp.part c).1 w
        have h3 : (namesIn r.2).length * gN (cntN names m) ≤ 4 * gN (cntN names m) := Nat.mul_le_mul_right _ (Nat.le_trans (namesIn_le _) hq.few)
        omega
      | never =>
        have := (allIn_cons.mp (allIn_cons.mp hd).2).1 k1.1
        have q' : aGet m nv = none := q
        rw [q'] at this
        cases this
      | needs =>
        refine ⟨fun z => ?_, fun z => absurd hbase z⟩
        rw [if_pos ⟨z, rfl⟩]
        have e1 : ldSteps m [121, nv] = 1 + bS m nv := by
          unfold ldSteps
          rw [show namesIn [121, nv] = [nv] by unfold namesIn; rw [List.filter_cons, if_neg (by decide), List.filter_cons, if_pos k1.1]; rfl]
          simp
        have h5 := (hp.part nv).2 k1.2
        rw [if_neg (fun z => d2 z), if_neg (fun z => d3 z)] at h5
        show ldSteps m [121, nv] ≤ 4 + 4 * gN (cntN names m)
        omega
      | @apart c hs =>
        have e1 : ldSteps m [c] = 1 := steps_none (fun d hd => by simp at hd; subst hd; exact hs)
        refine ⟨fun z => absurd z k2.2, fun _ => ?_⟩
        rw [e1]
        exact hone ap
      | way =>
        refine ⟨fun z => ?_, fun z => absurd hbase z⟩
        rw [if_pos ⟨z, rfl⟩]
        have h5 := (hp.part w0).2 k3.2
        rw [if_pos rfl] at h5
        show ldSteps m [w0] ≤ 4 + 4 * gN (cntN names m)
        rw [steps_one k3.1]
        omega
      | way0 =>
        refine ⟨fun z => absurd z k3.2, fun _ => ?_⟩
        have h5 := (hp.part w1).2 k4.2
        rw [if_neg (fun z => d8 z.symm), if_pos rfl] at h5
        show ldSteps m [w1] ≤ _
        rw [steps_one k4.1, if_pos rfl]
        omega
      | way1 =>
        refine ⟨fun z => absurd z k4.2, fun _ => ?_⟩
        have h5 := (hp.part w2).2 k5.2
        rw [if_neg (fun z => d9 z.symm), if_neg (fun z => d10 z.symm)] at h5
        show ldSteps m [w2] ≤ _
        rw [steps_one k5.1, if_neg (fun z => d8 z.symm), if_pos rfl]
        omega
      | way2 =>
        have e1 : ldSteps m [113] = 1 := steps_none (fun c hc => by simp at hc; subst hc; decide)
        refine ⟨fun z => absurd z k5.2, fun _ => ?_⟩
        rw [e1]
        exact hone w2
      | more hb2 hs =>
        rename_i b
        refine ⟨fun z => ?_, fun z => absurd hbase z⟩
        rw [if_pos ⟨z, rfl⟩]
        show ldSteps m b ≤ 4 + 4 * gN (cntN names m)
        rw [steps_none hs]
        omega
  · rw [if_neg e] at ht
    have h0 := hp c t ht
    refine ⟨fun z => Nat.le_trans (h0.1 z) (gN_mono ?_), h0.2⟩
    rw [cntN_put]
    omega
/-- such a list is let -/
theorem Wd.ok (h : Wd names nv ap w0 w1 w2 rules) (h16 : rules.length ≤ 16) : (Gram.mk rules (dg names 0)).Ok := by
  obtain ⟨x0, hx0, _⟩ := h.root
  obtain ⟨r0, hr0, e1, _⟩ := h.en
  have pre : PreOk (Gram.mk rules (dg names 0)) := ⟨⟨List.length_pos_of_mem hr0, h16⟩, h.rok, List.mem_map.mpr ⟨r0, hr0, e1⟩, by show (aGet (leastLengths rules) (dg names 0)).isSome = true; rw [hx0]; rfl, fun n _ r _ => h.short r.1⟩
  have hst := best_keep pre (StP names w0 w1 w2) (fun c t ht => by cases ht) (fun m r n hp _ _ hm hd hb => h.step hp hm (by
    unfold ldDue at hd
    rw [Bool.and_eq_true] at hd
    exact hd.2) hb)
  refine pre.ok fun c t ht => ?_
  have h0 := hst c t ht
  by_cases hc : c ∈ names
  · have h1 := h0.1 hc
    have h2 : cntN names (Gram.mk rules (dg names 0)).best ≤ 3 := by
      have hnd : ((((Gram.mk rules (dg names 0)).best).map fun q : Nat × Tri Nat (List Nat) Nat => q.1).filter fun x => decide (x ∈ names)).Nodup := List.Pairwise.filter _ pre.bestOk.1.nd
      have := nodup_le (s := names) hnd (fun y hy => of_decide_eq_true (List.mem_filter.mp hy).2)
      have h3 := h.three
      unfold cntN
      omega
    have h3 := gN_mono h2
    have h4 : gN 3 = 84 := rfl
    omega
  · have h1 := h0.2 hc
    have : (if c = w0 then 3 else if c = w1 then 2 else 1) ≤ 3 := by split <;> (try split) <;> omega
    omega
end
end SF
namespace SF
def wdHeads (rules : List Rule) : List (List Nat) := rules.map (fun r => [r.1]) ++ rules.map fun r => r.2
def wdFree (rules : List Rule) : List Nat := letters.filter fun c => decide (c ∉ (wdHeads rules).flatten)
def wdMore (base nv ap : Nat) : List Rule := [(nv, [122, nv]), (base, [121, nv]), (ap, [120])]
def wdStep (d : List Nat) (more : List Rule) (w : List Rule) (k : Nat) : List Rule := if 0 < dg d (1 + k) % 3 then insAt w (dg d (4 + k) % (w.length + 1)) (more[k]?.getD (0, [])) else w
def wdWide (rules : List Rule) (base : Nat) (d : List Nat) : List Rule := (List.range 3).foldl (wdStep d (wdMore base (rd (wdFree rules) (dg d 0)) (rd (wdFree rules) (dg d 0 + 1)))) rules
def wdChain (base a b c : Nat) : List Rule := [(base, [a]), (a, [b]), (b, [c]), (c, [113])]
def lawWider (rules : List Rule) (base : Nat) (d : List Nat) : List Rule :=
  if dg d 7 % 2 = 0 then wdWide rules base d
  else
    let ch := wdChain base (rd (wdFree rules) (dg d 0 + 2 + 0)) (rd (wdFree rules) (dg d 0 + 2 + 1)) (rd (wdFree rules) (dg d 0 + 2 + 2))
    let ch2 := if dg d 8 % 2 = 1 then ch.reverse else ch
    if dg d 9 % 2 = 1 then wdWide rules base d ++ ch2 else ch2 ++ wdWide rules base d
theorem letters_nodup : letters.Nodup := letters_asc.imp fun h => Nat.ne_of_lt h
theorem filter_split {α : Type} (p : α → Bool) : ∀ l : List α, (l.filter p).length + (l.filter fun x => !p x).length = l.length
  | [] => rfl
  | a :: l => by
    have ih := filter_split p l
    rw [List.filter_cons, List.filter_cons, List.length_cons]
    cases h : p a with
    | true => simp; omega
    | false => simp; omega
theorem heads_mem {rules : List Rule} {c : Nat} : c ∈ (wdHeads rules).flatten ↔ ∃ r ∈ rules, c = r.1 ∨ c ∈ r.2 := by
  unfold wdHeads
  rw [List.mem_flatten]
  constructor
  · rintro ⟨l, hl, hc⟩
    rcases List.mem_append.mp hl with h | h
    · obtain ⟨r, hr, rfl⟩ := List.mem_map.mp h
      simp at hc
      exact ⟨r, hr, .inl hc⟩
    · obtain ⟨r, hr, rfl⟩ := List.mem_map.mp h
      exact ⟨r, hr, .inr hc⟩
  · rintro ⟨r, hr, h | h⟩
    · exact ⟨[r.1], List.mem_append_left _ (List.mem_map.mpr ⟨r, hr, rfl⟩), by simp [h]⟩
    · exact ⟨r.2, List.mem_append_right _ (List.mem_map.mpr ⟨r, hr, rfl⟩), h⟩
section
variable {names : List Nat} {rules : List Rule}
theorem free_len (h : Drawn names rules) (hlen : names.length ≤ 3) : 23 ≤ (wdFree rules).length := by
  have h1 := filter_split (fun c => decide (c ∉ (wdHeads rules).flatten)) letters
  have h2 : (letters.filter fun x => !decide (x ∉ (wdHeads rules).flatten)).length ≤ names.length := by
    refine nodup_le (List.Pairwise.filter _ letters_nodup) fun c hc => ?_
    obtain ⟨hc1, hc2⟩ := List.mem_filter.mp hc
    have hm : c ∈ (wdHeads rules).flatten := by simpa using hc2
    obtain ⟨r, hr, h3⟩ := heads_mem.mp hm
    have q := h.ru r hr
    rcases h3 with rfl | h3
    · exact q.hd
    · rcases q.bd c h3 with z | z
      · have := letters_mem.mp hc1
        rw [sgn_not_nam z] at this
        cases this
      · exact z
  have h3 : letters.length = 26 := rfl
  unfold wdFree
  omega
theorem free_nodup : (wdFree rules).Nodup := List.Pairwise.filter _ letters_nodup
theorem rd_ne {l : List Nat} (hn : l.Nodup) {a b : Nat} (hl : 23 ≤ l.length) (hab : a < b) (hb : b ≤ a + 22) : rd l a ≠ rd l b := by
  intro e
  unfold rd dg at e
  have ha : a % l.length < l.length := Nat.mod_lt _ (by omega)
  have hb2 : b % l.length < l.length := Nat.mod_lt _ (by omega)
  rw [List.getElem?_eq_getElem ha, List.getElem?_eq_getElem hb2] at e
  have e' : l[a % l.length] = l[b % l.length] := e
  have := (List.getElem_inj hn).mp e'
  have h1 := Nat.div_add_mod a l.length
  have h2 := Nat.div_add_mod b l.length
  have h3 : l.length * (b / l.length) - l.length * (a / l.length) = b - a := by omega
  have h4 : a / l.length ≤ b / l.length := Nat.div_le_div_right (by omega)
  rcases Nat.lt_or_ge (a / l.length) (b / l.length) with h5 | h5
  · have h6 := Nat.mul_le_mul_left l.length (show a / l.length + 1 ≤ b / l.length from h5)
    rw [Nat.mul_add] at h6
    omega
  · have h6 : a / l.length = b / l.length := by omega
    rw [h6] at h3
    omega
/-- the names that stand in the rules -/
theorem filter_first {l : List Nat} {p : Nat → Bool} (h : 1 ≤ l.length) (hp : p (dg l 0) = true) : dg (l.filter p) 0 = dg l 0 ∧ 1 ≤ (l.filter p).length := by
  cases l with
  | nil => simp at h
  | cons a l =>
    have hp' : p a = true := hp
    rw [List.filter_cons, if_pos hp']
    exact ⟨rfl, by simp⟩
theorem wdStep_mem {d : List Nat} {more w : List Rule} {k : Nat} {r : Rule} (h : r ∈ wdStep d more w k) : r ∈ w ∨ r = more[k]?.getD (0, []) := by
  unfold wdStep at h
  split at h
  · rcases insAt_mem.mp h with z | z
    · exact .inr z
    · exact .inl z
  · exact .inl h
theorem wdStep_sub {d : List Nat} {more w : List Rule} {k : Nat} {r : Rule} (h : r ∈ w) : r ∈ wdStep d more w k := by
  unfold wdStep
  split
  · exact insAt_mem.mpr (.inr h)
  · exact h
theorem wdStep_len {d : List Nat} {more w : List Rule} {k : Nat} : (wdStep d more w k).length ≤ w.length + 1 := by
  unfold wdStep
  split
  · rw [insAt_len (by have := Nat.mod_lt (dg d (4 + k)) (show w.length + 1 > 0 by omega); omega)]
    omega
  · omega
theorem wdWide_mem {base : Nat} {d : List Nat} {r : Rule} (h : r ∈ wdWide rules base d) : r ∈ rules ∨ r ∈ wdMore base (rd (wdFree rules) (dg d 0)) (rd (wdFree rules) (dg d 0 + 1)) := by
  unfold wdWide at h
  generalize rd (wdFree rules) (dg d 0) = nv at h ⊢
  generalize rd (wdFree rules) (dg d 0 + 1) = ap at h ⊢
  have h' : r ∈ wdStep d (wdMore base nv ap) (wdStep d (wdMore base nv ap) (wdStep d (wdMore base nv ap) rules 0) 1) 2 := h
  rcases wdStep_mem h' with h' | h'
  · rcases wdStep_mem h' with h' | h'
    · rcases wdStep_mem h' with h' | h'
      · exact .inl h'
      · right; rw [h']; unfold wdMore; simp
    · right; rw [h']; unfold wdMore; simp
  · right; rw [h']; unfold wdMore; simp
theorem wdWide_sub {base : Nat} {d : List Nat} {r : Rule} (h : r ∈ rules) : r ∈ wdWide rules base d := wdStep_sub (wdStep_sub (wdStep_sub h))
theorem wdWide_len {base : Nat} {d : List Nat} : (wdWide rules base d).length ≤ rules.length + 3 := by
  have h1 := wdStep_len (d := d) (more := wdMore base (rd (wdFree rules) (dg d 0)) (rd (wdFree rules) (dg d 0 + 1))) (w := rules) (k := 0)
  have h2 := wdStep_len (d := d) (more := wdMore base (rd (wdFree rules) (dg d 0)) (rd (wdFree rules) (dg d 0 + 1))) (w := wdStep d (wdMore base (rd (wdFree rules) (dg d 0)) (rd (wdFree rules) (dg d 0 + 1))) rules 0) (k := 1)
  have h3 := wdStep_len (d := d) (more := wdMore base (rd (wdFree rules) (dg d 0)) (rd (wdFree rules) (dg d 0 + 1))) (w := wdStep d (wdMore base (rd (wdFree rules) (dg d 0)) (rd (wdFree rules) (dg d 0 + 1))) (wdStep d (wdMore base (rd (wdFree rules) (dg d 0)) (rd (wdFree rules) (dg d 0 + 1))) rules 0) 1) (k := 2)
  show (wdStep _ _ (wdStep _ _ (wdStep _ _ rules 0) 1) 2).length ≤ _
  omega
theorem lawWider_len {base : Nat} {d : List Nat} : (lawWider rules base d).length ≤ rules.length + 7 := by
  have h := wdWide_len (rules := rules) (base := base) (d := d)
  unfold lawWider
  dsimp only
  split
  · omega
  · have hc : ∀ a b c : Nat, (wdChain base a b c).length = 4 := fun _ _ _ => rfl
    split <;> split <;> simp [hc] <;> omega
theorem lawWider_mem {base : Nat} {d : List Nat} {r : Rule} (h : r ∈ lawWider rules base d) : r ∈ rules ∨ r ∈ wdMore base (rd (wdFree rules) (dg d 0)) (rd (wdFree rules) (dg d 0 + 1)) ∨
    r ∈ wdChain base (rd (wdFree rules) (dg d 0 + 2 + 0)) (rd (wdFree rules) (dg d 0 + 2 + 1)) (rd (wdFree rules) (dg d 0 + 2 + 2)) := by
  unfold lawWider at h
  dsimp only at h
  have wide : r ∈ wdWide rules base d → r ∈ rules ∨ r ∈ wdMore base (rd (wdFree rules) (dg d 0)) (rd (wdFree rules) (dg d 0 + 1)) ∨
      r ∈ wdChain base (rd (wdFree rules) (dg d 0 + 2 + 0)) (rd (wdFree rules) (dg d 0 + 2 + 1)) (rd (wdFree rules) (dg d 0 + 2 + 2)) := fun z => by
    rcases wdWide_mem z with z | z
    · exact .inl z
    · exact .inr (.inl z)
  split at h
  · exact wide h
  · split at h <;> split at h <;> (rcases List.mem_append.mp h with z | z) <;> first | exact wide z | exact .inr (.inr z) | exact .inr (.inr (List.mem_reverse.mp z))
theorem lawWider_sub {base : Nat} {d : List Nat} {r : Rule} (h : r ∈ rules) : r ∈ lawWider rules base d := by
  have hw := wdWide_sub (base := base) (d := d) h
  unfold lawWider
  dsimp only
  split
  · exact hw
  · split <;> split <;> first | exact List.mem_append_left _ hw | exact List.mem_append_right _ hw
/-- the wider rules are such a list -/
theorem lawWider_wd (h : Drawn names rules) (hnn : ∀ c ∈ names, nam c = true) (h1 : 1 ≤ names.length) (hlen : names.length ≤ 3) (d : List Nat) :
    ∃ names', dg names' 0 = dg names 0 ∧ Wd names' (rd (wdFree rules) (dg d 0)) (rd (wdFree rules) (dg d 0 + 1)) (rd (wdFree rules) (dg d 0 + 2 + 0)) (rd (wdFree rules) (dg d 0 + 2 + 1)) (rd (wdFree rules) (dg d 0 + 2 + 2)) (lawWider rules (dg names 0) d) := by
  have hfl := free_len h hlen
  have hfn := free_nodup (rules := rules)
  obtain ⟨r0, hr0, e1, e2, e3⟩ := h.en
  have hroot : decide (dg names 0 ∈ (wdHeads rules).flatten) = true := decide_eq_true (heads_mem.mpr ⟨r0, hr0, .inl e1.symm⟩)
  obtain ⟨f1, f2⟩ := filter_first (p := fun c => decide (c ∈ (wdHeads rules).flatten)) h1 hroot
  refine ⟨names.filter fun c => decide (c ∈ (wdHeads rules).flatten), f1, ?_⟩
  have inr : ∀ r ∈ rules, RuD (names.filter fun c => decide (c ∈ (wdHeads rules).flatten)) r := fun r hr => by
    have q := h.ru r hr
    refine ⟨List.mem_filter.mpr ⟨q.hd, decide_eq_true (heads_mem.mpr ⟨r, hr, .inl rfl⟩)⟩, fun c hc => ?_, q.few, fun hne => q.less (by rw [f1] at hne; exact hne)⟩
    rcases q.bd c hc with z | z
    · exact .inl z
    · exact .inr (List.mem_filter.mpr ⟨z, decide_eq_true (heads_mem.mpr ⟨r, hr, .inr hc⟩)⟩)
  have hfree : ∀ n, rd (wdFree rules) n ∈ wdFree rules := fun n => rd_mem (by omega)
  refine ⟨fun r hr => ?_, ⟨r0, lawWider_sub hr0, by rw [f1]; exact e1, e2, e3⟩, fun c hc => hnn c (List.mem_filter.mp hc).1, f2, Nat.le_trans (List.length_filter_le _ _) hlen, fun c hc => ?_, ?_⟩
  · rcases lawWider_mem hr with z | z | z
    · exact .inner (inr r z)
    · unfold wdMore at z
      simp only [List.mem_cons, List.not_mem_nil, or_false] at z
      rcases z with rfl | rfl | rfl
      · exact .never
      · rw [← f1]; exact .needs
      · exact .apart (by decide)
    · unfold wdChain at z
      simp only [List.mem_cons, List.not_mem_nil, or_false] at z
      rcases z with rfl | rfl | rfl | rfl
      · rw [← f1]; exact .way
      · exact .way0
      · exact .way1
      · exact .way2
  · have key : ∀ n, nam (rd (wdFree rules) n) = true ∧ rd (wdFree rules) n ∉ names.filter fun c => decide (c ∈ (wdHeads rules).flatten) := fun n => by
      obtain ⟨z1, z2⟩ := List.mem_filter.mp (hfree n)
      refine ⟨letters_mem.mp z1, fun z => ?_⟩
      have := (List.mem_filter.mp z).2
      have z2' := of_decide_eq_true z2
      exact z2' (of_decide_eq_true this)
    simp only [List.mem_cons, List.not_mem_nil, or_false] at hc
    rcases hc with rfl | rfl | rfl | rfl | rfl <;> exact key _
  · have ne : ∀ i j, i < j → j ≤ 4 → rd (wdFree rules) (dg d 0 + i) ≠ rd (wdFree rules) (dg d 0 + j) := fun i j h1 h2 => rd_ne hfn hfl (by omega) (by omega)
    have g01 := ne 0 1 (by omega) (by omega)
    have g02 := ne 0 2 (by omega) (by omega)
    have g03 := ne 0 3 (by omega) (by omega)
    have g04 := ne 0 4 (by omega) (by omega)
    have g12 := ne 1 2 (by omega) (by omega)
    have g13 := ne 1 3 (by omega) (by omega)
    have g14 := ne 1 4 (by omega) (by omega)
    have g23 := ne 2 3 (by omega) (by omega)
    have g24 := ne 2 4 (by omega) (by omega)
    have g34 := ne 3 4 (by omega) (by omega)
    simp only [Nat.add_zero, Nat.add_assoc] at g01 g02 g03 g04 g12 g13 g14 g23 g24 g34 ⊢
    simp only [List.nodup_cons, List.mem_cons, List.not_mem_nil, or_false, not_or, not_false_eq_true, List.nodup_nil, and_true]
    exact ⟨⟨g01, g02, g03, g04⟩, ⟨g12, g13, g14⟩, ⟨g23, g24⟩, g34⟩
/-- one more rule of the root, of up to four signs, at any place -/
theorem Wd.ins {nv ap w0 w1 w2 : Nat} {R : List Rule} (h : Wd names nv ap w0 w1 w2 R) {b : List Nat} (hb : b.length ≤ 4) (hs : ∀ c ∈ b, sgn c = true) (i : Nat) : Wd names nv ap w0 w1 w2 (insAt R i (dg names 0, b)) := by
  obtain ⟨r0, hr0, e⟩ := h.en
  exact ⟨fun r hr => by
    rcases insAt_mem.mp hr with rfl | hr
    · exact .more hb hs
    · exact h.ru r hr, ⟨r0, insAt_mem.mpr (.inr hr0), e⟩, h.nn, h.one, h.three, h.news, h.dist⟩
end
end SF
/-! ### the signs of a drawn grammar -/
namespace SF
def SgIn (names signs : List Nat) (rules : List Rule) : Prop := ∀ r ∈ rules, ∀ c ∈ r.2, c ∈ signs ∨ c ∈ names
section
variable {names signs : List Nat} (hn : 1 ≤ names.length) (hs : 1 ≤ signs.length)
include hn hs
theorem known_sg (n : Nat) : SgIn names signs (lawKnown n names signs) := by
  have m0 : dg names 0 ∈ names := dg_mem hn
  have m1 : rd names 1 ∈ names := rd_mem hn
  have m2 : rd names 2 ∈ names := rd_mem hn
  have x0 : dg signs 0 ∈ signs := dg_mem hs
  have x1 : rd signs 1 ∈ signs := rd_mem hs
  have x2 : rd signs 2 ∈ signs := rd_mem hs
  have h8 : n % 8 < 8 := Nat.mod_lt _ (by decide)
  unfold SgIn lawKnown
  dsimp only
  generalize n % 8 = i at h8
  generalize dg signs 0 = x at *
  generalize rd signs 1 = y at *
  generalize rd signs 2 = z at *
  generalize rd names 1 = a at *
  generalize rd names 2 = b at *
  generalize dg names 0 = s at *
  have hcase : i = 0 ∨ i = 1 ∨ i = 2 ∨ i = 3 ∨ i = 4 ∨ i = 5 ∨ i = 6 ∨ i = 7 := by omega
  intro r hr
  rcases hcase with rfl | rfl | rfl | rfl | rfl | rfl | rfl | rfl
  all_goals
    simp only [List.getElem?_cons_zero, List.getElem?_cons_succ, Option.getD_some, List.mem_cons, List.not_mem_nil, or_false] at hr
  all_goals
    (repeat' (rcases hr with hr | hr))
  all_goals
    (try subst hr
     intro c hc)
  all_goals
    simp only [List.mem_cons, List.not_mem_nil, or_false] at hc
  all_goals
    (repeat' (rcases hc with hc | hc))
  all_goals
    (try subst hc
     first | (exact Or.inr (by assumption)) | (exact Or.inl (by assumption)))
theorem rules0_sg (d : List Nat) : SgIn names signs (lawRules0 d names signs) := by
  unfold lawRules0
  split
  · exact known_sg hn hs _
  · intro r hr
    obtain ⟨k, _, rfl⟩ := List.mem_map.mp hr
    intro c hc
    obtain ⟨j, _, rfl⟩ := List.mem_map.mp hc
    have hm : rd (names ++ signs) (dg d (8 + 5 * k + 2 + j)) ∈ names ++ signs := rd_mem (by rw [List.length_append]; omega)
    exact (List.mem_append.mp hm).symm
theorem ending_sg (d : List Nat) (at_ : Nat) : ∀ c ∈ lawEnding d signs at_, c ∈ signs := by
  have x1 : rd signs (dg d (at_ + 1)) ∈ signs := rd_mem hs
  have x2 : rd signs (dg d (at_ + 1) / 10) ∈ signs := rd_mem hs
  unfold lawEnding
  have h4 : dg d at_ % 4 < 4 := Nat.mod_lt _ (by decide)
  generalize dg d at_ % 4 = i at h4
  have hcase : i = 0 ∨ i = 1 ∨ i = 2 ∨ i = 3 := by omega
  intro c hc
  rcases hcase with rfl | rfl | rfl | rfl
  · simp at hc
  · simp at hc; rw [hc]; exact x1
  · simp at hc
    rcases hc with rfl | rfl
    · exact x1
    · exact x2
  · simp at hc; rw [hc]; exact x1
theorem ends_sg (d : List Nat) : ∀ k, SgIn names signs ((List.range k).foldl (lawEnd d names signs) (lawRules0 d names signs))
  | 0 => rules0_sg hn hs d
  | k + 1 => by
    have h1 := ends_sg d k
    rw [List.range_succ, List.foldl_append]
    show SgIn names signs (lawEnd d names signs _ k)
    generalize (List.range k).foldl (lawEnd d names signs) (lawRules0 d names signs) = rules at h1
    unfold lawEnd
    split
    · intro r hr
      rcases insAt_mem.mp hr with rfl | hr
      · exact fun c hc => .inl (ending_sg hn hs d _ c hc)
      · exact h1 r hr
    · exact h1
end
theorem lawGrammar_sg (d : List Nat) : SgIn (lawNames d) (lawSigns d) (lawGrammar d) := ends_sg (lawNames_len d).1 (lawSigns_len d).1 d _
/-- what rules derive consists of their signs -/
theorem der_sg {U : List Rule} {P : Nat → Prop} (hU : ∀ r ∈ U, ∀ c ∈ r.2, nam c = false → P c) {b w : List Nat} (h : DerW U b w) : (∀ c ∈ b, nam c = false → P c) → ∀ c ∈ w, P c := by
  induction h with
  | nil => intro _ c hc; cases hc
  | @sign c b w hc _ ih =>
    intro hb x hx
    rcases List.mem_cons.mp hx with e | e
    · rw [e]; exact hb c List.mem_cons_self hc
    · exact ih (fun y hy => hb y (List.mem_cons_of_mem _ hy)) x e
  | @name r b w1 w2 hr hn _ _ ih1 ih2 =>
    intro hb x hx
    rcases List.mem_append.mp hx with e | e
    · exact ih1 (hU r hr) x e
    · exact ih2 (fun y hy => hb y (List.mem_cons_of_mem _ hy)) x e
end SF
/-! ### sixteen names, one below the other -/
namespace SF
structure Lad (N T : List Nat) (R : List Rule) : Prop where
  nam : ∀ k, k < 16 → nam (dg N k) = true
  inj : ∀ i j, i < 16 → j < 16 → dg N i = dg N j → i = j
  len : T.length = 15
  sg : ∀ c ∈ T, sgn c = true
  ru : ∀ r ∈ R, (∃ k, k < 15 ∧ r = (dg N k, [dg T k, dg N (k + 1)])) ∨ r = (dg N 15, [])
  has : ∀ k, k < 15 → (dg N k, [dg T k, dg N (k + 1)]) ∈ R
  en : (dg N 15, []) ∈ R
  few : R.length ≤ 16
section
variable {N T : List Nat} {R : List Rule}
theorem Lad.rok (h : Lad N T R) : RulesOk R := fun r hr => by
  rcases h.ru r hr with ⟨k, hk, rfl⟩ | rfl
  · refine ⟨h.nam k (by omega), by simp, fun c hc => ?_⟩
    simp only [List.mem_cons, List.not_mem_nil, or_false] at hc
    rcases hc with rfl | rfl
    · rw [h.sg _ (dg_mem (by rw [h.len]; omega))]; rfl
    · rw [h.nam (k + 1) (by omega), Bool.or_true]
  · exact ⟨h.nam 15 (by omega), by simp, fun c hc => (by cases hc)⟩
theorem drop_dg {T : List Nat} {k : Nat} (h : k < T.length) : T.drop k = dg T k :: T.drop (k + 1) := by
  rw [List.drop_eq_getElem_cons h]
  unfold dg
  rw [List.getElem?_eq_getElem h]; rfl
theorem Lad.der (h : Lad N T R) : ∀ j k, k + j = 15 → DerW R [dg N k] (T.drop k)
  | 0, k, e => by
    have hk : k = 15 := by omega
    subst hk
    rw [List.drop_eq_nil_of_le (by rw [h.len]; omega)]
    exact DerW.name (r := (dg N 15, [])) (w1 := []) (w2 := []) h.en (h.nam 15 (by omega)) .nil .nil
  | j + 1, k, e => by
    have ih := h.der j (k + 1) (by omega)
    have hl : k < T.length := by rw [h.len]; omega
    rw [drop_dg hl]
    have := DerW.name (r := (dg N k, [dg T k, dg N (k + 1)])) (w1 := dg T k :: T.drop (k + 1)) (w2 := []) (h.has k (by omega)) (h.nam k (by omega)) (.sign (sgn_not_nam (h.sg _ (dg_mem hl))) ih) .nil
    rw [List.append_nil] at this
    exact this
theorem der_head {U : List Rule} {A : Nat} {w : List Nat} (hA : SF.nam A = true) (h : DerW U [A] w) : ∃ r ∈ U, r.1 = A ∧ DerW U r.2 w := by
  obtain ⟨b, hb⟩ : ∃ b, b = [A] := ⟨_, rfl⟩
  rw [← hb] at h
  cases h with
  | nil => cases hb
  | sign hn _ => injection hb with e _; rw [e, hA] at hn; cases hn
  | @name r b w1 w2 hr hn h1 h2 =>
    injection hb with e1 e2
    subst e2
    cases h2
    rw [List.append_nil]
    exact ⟨r, hr, e1, h1⟩
theorem Lad.one (h : Lad N T R) : ∀ j k, k + j = 15 → ∀ w, DerW R [dg N k] w → w = T.drop k
  | j, k, e, w, hw => by
    obtain ⟨r, hr, e1, hd⟩ := der_head (h.nam k (by omega)) hw
    rcases h.ru r hr with ⟨i, hi, rfl⟩ | rfl
    · have hik := h.inj i k (by omega) (by omega) e1
      subst hik
      have hl : i < T.length := by rw [h.len]; omega
      have hd2 : DerW R [dg T i, dg N (i + 1)] w := hd
      clear hd
      obtain ⟨b, hb⟩ : ∃ b, b = [dg T i, dg N (i + 1)] := ⟨_, rfl⟩
      rw [← hb] at hd2
      cases hd2 with
      | nil => cases hb
      | @sign c b w' hn hd3 =>
        injection hb with e2 e3
        match j, e with
        | 0, e => omega
        | j + 1, e =>
          rw [e3] at hd3
          rw [h.one j (i + 1) (by omega) _ hd3, e2, ← drop_dg hl]
      | @name r b w1 w2 hr hn _ _ =>
        injection hb with e2 _
        rw [e2, sgn_not_nam (h.sg _ (dg_mem hl))] at hn; cases hn
    · have hik := h.inj 15 k (by omega) (by omega) e1
      subst hik
      cases hd
      rw [List.drop_eq_nil_of_le (by rw [h.len]; omega)]
def LadP (N : List Nat) (m : Best) : Prop := ∀ k, k < 16 → ∀ t, aGet m (dg N k) = some t → t.a + k ≤ 16
theorem Lad.ok (h : Lad N T R) : (Gram.mk R (dg N 0)).Ok := by
  have hrok := h.rok
  have hlen : ∀ k, k < 16 → (aGet (leastLengths R) (dg N k)).isSome = true ∧ (aGet (leastLengths R) (dg N k)).getD 0 ≤ 15 := fun k hk => by
    have hd := h.der (15 - k) k (by omega)
    obtain ⟨q1, q2⟩ := ll_least hrok hd
    refine ⟨(allIn_cons.mp q1).1 (h.nam k hk), ?_⟩
    rw [total_cons, if_pos (h.nam k hk)] at q2
    rw [List.length_drop, h.len] at q2
    omega
  have hhead : ∀ r ∈ R, ∃ k, k < 16 ∧ r.1 = dg N k := fun r hr => by
    rcases h.ru r hr with ⟨k, hk, rfl⟩ | rfl
    · exact ⟨k, by omega, rfl⟩
    · exact ⟨15, by omega, rfl⟩
  have pre : PreOk (Gram.mk R (dg N 0)) := ⟨⟨List.length_pos_of_mem h.en, h.few⟩, hrok, List.mem_map.mpr ⟨_, h.has 0 (by omega), rfl⟩, (hlen 0 (by omega)).1, fun n _ r hr => by
    obtain ⟨k, hk, e⟩ := hhead r (List.mem_of_getElem? hr)
    have := (hlen k hk).2
    rw [e]
    show (aGet (leastLengths R) (dg N k)).getD 0 ≤ 24
    omega⟩
  have hst := best_keep pre (fun m => LadP N m ∧ ∀ c, (aGet m c).isSome = true → ∃ k, k < 16 ∧ c = dg N k) ⟨fun k hk t ht => (by cases ht), fun c hc => (by cases hc)⟩ (fun m r n hp _ _ hm hd hb => by
    obtain ⟨hp1, hp2⟩ := hp
    refine ⟨fun k hk t ht => ?_, fun c hc => ?_⟩
    · rw [aGet_put] at ht
      split at ht
      · rename_i e
        cases ht
        rcases h.ru r hm with ⟨i, hi, rfl⟩ | rfl
        · have hik := h.inj k i hk (by omega) e
          subst hik
          have hn1 := h.nam (k + 1) (by omega)
          have hs : SF.nam (dg T k) = false := sgn_not_nam (h.sg _ (dg_mem (by rw [h.len]; omega)))
          have e1 : ldSteps m [dg T k, dg N (k + 1)] = 1 + bS m (dg N (k + 1)) := by
            unfold ldSteps
            rw [show namesIn [dg T k, dg N (k + 1)] = [dg N (k + 1)] by unfold namesIn; rw [List.filter_cons, if_neg (by rw [hs]; decide), List.filter_cons, if_pos hn1]; rfl]
            simp
          show ldSteps m [dg T k, dg N (k + 1)] + k ≤ 16
          rw [e1]
          unfold bS
          cases q : aGet m (dg N (k + 1)) with
          | none => show 1 + 0 + k ≤ 16; omega
          | some t => have := hp1 (k + 1) (by omega) t q; show 1 + t.a + k ≤ 16; omega
        · have hik := h.inj k 15 hk (by omega) e
          subst hik
          show ldSteps m [] + 15 ≤ 16
          rw [steps_none (fun c hc => by cases hc)]
          omega
      · exact hp1 k hk t ht
    · rw [aGet_put] at hc
      split at hc
      · rename_i e
        obtain ⟨k, hk, e2⟩ := hhead r hm
        exact ⟨k, hk, e.trans e2⟩
      · exact hp2 c hc)
  refine pre.ok fun c t ht => ?_
  obtain ⟨k, hk, rfl⟩ := hst.2 c (by rw [ht]; rfl)
  have := hst.1 k hk t ht
  omega
theorem Lad.only (h : Lad N T R) {w : List Nat} : DerW R [dg N 0] w ↔ w = T := ⟨fun hd => by have := h.one 15 0 rfl w hd; rwa [List.drop_zero] at this, fun e => by rw [e]; have := h.der 15 0 rfl; rwa [List.drop_zero] at this⟩
end
end SF
/-! ### greedy cuts from either end, no program in sight -/
namespace SF
structure VMono (V : Nat → Nat → Prop) : Prop where
  sub : ∀ i j i' j', i ≤ i' → j' ≤ j → V i j → V i' j'
inductive Cuts (V : Nat → Nat → Prop) (n : Nat) : Nat → List (Nat × Nat) → Prop
  | done {b} : b ≤ n → V b n → Cuts V n b []
  | step {b s e rest} : b < e → e ≤ n → ¬ V b e → V b (e - 1) → b ≤ s → s < e → ¬ V s e → V (s + 1) e → Cuts V n e rest → Cuts V n b ((s, e) :: rest)
structure Chn (V : Nat → Nat → Prop) (b n : Nat) (M : List (Nat × Nat)) : Prop where
  each : ∀ p ∈ M, b ≤ p.1 ∧ p.1 < p.2 ∧ p.2 ≤ n ∧ ¬ V p.1 p.2
  pw : M.Pairwise fun p q => p.2 ≤ q.1
section
variable {V : Nat → Nat → Prop} {n : Nat}
theorem Chn.tail {b : Nat} {p : Nat × Nat} {M : List (Nat × Nat)} (h : Chn V b n (p :: M)) : Chn V p.2 n M := by
  have hp := List.pairwise_cons.mp h.pw
  exact ⟨fun q hq => ⟨hp.1 q hq, (h.each q (List.mem_cons_of_mem _ hq)).2⟩, hp.2⟩
theorem Cuts.le {b : Nat} {L : List (Nat × Nat)} (h : Cuts V n b L) : b ≤ n := by
  cases h with
  | done h _ => exact h
  | step h1 h2 => omega
theorem Cuts.chn {b : Nat} {L : List (Nat × Nat)} (h : Cuts V n b L) : Chn V b n L := by
  induction h with
  | done _ _ => exact ⟨fun p hp => (by cases hp), .nil⟩
  | @step b s e rest h1 h2 h3 h4 h5 h6 h7 h8 h9 ih =>
    refine ⟨fun p hp => ?_, List.pairwise_cons.mpr ⟨fun q hq => (ih.each q hq).1, ih.pw⟩⟩
    rcases List.mem_cons.mp hp with rfl | hp
    · exact ⟨h5, h6, h2, h7⟩
    · obtain ⟨q1, q2⟩ := ih.each p hp
      exact ⟨by omega, q2⟩
theorem Cuts.most (hV : VMono V) {b : Nat} {L : List (Nat × Nat)} (h : Cuts V n b L) : ∀ {b' : Nat} {M : List (Nat × Nat)}, b ≤ b' → Chn V b' n M → M.length ≤ L.length := by
  induction h with
  | done _ hv =>
    intro b' M hb hM
    cases M with
    | nil => exact Nat.le_refl _
    | cons p M =>
      obtain ⟨q1, q2, q3, q4⟩ := hM.each p List.mem_cons_self
      exact absurd (hV.sub _ _ _ _ (by omega) q3 hv) q4
  | @step b s e rest h1 h2 h3 h4 h5 h6 h7 h8 h9 ih =>
    intro b' M hb hM
    cases M with
    | nil => exact Nat.zero_le _
    | cons p M =>
      obtain ⟨q1, q2, q3, q4⟩ := hM.each p List.mem_cons_self
      have he : e ≤ p.2 := Decidable.byContradiction fun z => q4 (hV.sub _ _ _ _ (by omega) (by omega) h4)
      have := ih he hM.tail
      rw [List.length_cons, List.length_cons]
      omega
theorem Cuts.len {b : Nat} {L : List (Nat × Nat)} (h : Cuts V n b L) : L.length + b ≤ n := by
  induction h with
  | done h _ => simpa using h
  | step h1 h2 _ _ _ _ _ _ _ ih => rw [List.length_cons]; omega
/-- seen from the other end -/
def mirV (V : Nat → Nat → Prop) (n : Nat) : Nat → Nat → Prop := fun i j => V (n - j) (n - i)
def mirL (n : Nat) (L : List (Nat × Nat)) : List (Nat × Nat) := L.reverse.map fun p => (n - p.2, n - p.1)
theorem mirV_mono (hV : VMono V) : VMono (mirV V n) := ⟨fun i j i' j' h1 h2 h => hV.sub _ _ _ _ (by omega) (by omega) h⟩
theorem mirL_len (L : List (Nat × Nat)) : (mirL n L).length = L.length := by unfold mirL; rw [List.length_map, List.length_reverse]
theorem Chn.mir {M : List (Nat × Nat)} (h : Chn (mirV V n) 0 n M) : Chn V 0 n (mirL n M) := by
  refine ⟨fun p hp => ?_, ?_⟩
  · obtain ⟨q, hq, rfl⟩ := List.mem_map.mp hp
    obtain ⟨_, q2, q3, q4⟩ := h.each q (List.mem_reverse.mp hq)
    exact ⟨Nat.zero_le _, by show n - q.2 < n - q.1; omega, by show n - q.1 ≤ n; omega, q4⟩
  · unfold mirL
    rw [List.pairwise_map, List.pairwise_reverse]
    refine h.pw.imp_of_mem fun {a c} ha hc hac => ?_
    show n - c.1 ≤ n - a.2
    omega
theorem Chn.mir' {M : List (Nat × Nat)} (h : Chn V 0 n M) : Chn (mirV V n) 0 n (mirL n M) := by
  refine ⟨fun p hp => ?_, ?_⟩
  · obtain ⟨q, hq, rfl⟩ := List.mem_map.mp hp
    obtain ⟨_, q2, q3, q4⟩ := h.each q (List.mem_reverse.mp hq)
    refine ⟨Nat.zero_le _, by show n - q.2 < n - q.1; omega, by show n - q.1 ≤ n; omega, fun z => q4 ?_⟩
    have z : V (n - (n - q.1)) (n - (n - q.2)) := z
    rwa [show n - (n - q.1) = q.1 by omega, show n - (n - q.2) = q.2 by omega] at z
  · unfold mirL
    rw [List.pairwise_map, List.pairwise_reverse]
    refine h.pw.imp_of_mem fun {a c} ha hc hac => ?_
    show n - c.1 ≤ n - a.2
    omega
/-- as many from the end as from the start -/
theorem cuts_same (hV : VMono V) {L M : List (Nat × Nat)} (h : Cuts V n 0 L) (h' : Cuts (mirV V n) n 0 M) : M.length = L.length := by
  have h1 := h.most hV (Nat.le_refl 0) h'.chn.mir
  have h2 := h'.most (mirV_mono hV) (Nat.le_refl 0) h.chn.mir'
  rw [mirL_len] at h1 h2
  omega
theorem pw_lt {M : List (Nat × Nat)} {b : Nat} (h : Chn V b n M) {i j : Nat} (hj : j < M.length) (hij : i < j) : (M[i]'(by omega)).2 ≤ M[j].1 := List.pairwise_iff_getElem.mp h.pw i j (by omega) hj hij
/-- the windows have a place -/
theorem cuts_window (hV : VMono V) {L R : List (Nat × Nat)} (h : Cuts V n 0 L) (hR : Chn V 0 n R) (hl : R.length = L.length) {i : Nat} (hi : i < L.length) : (R[i]'(by omega)).1 < L[i].2 := by
  refine Decidable.byContradiction fun z => ?_
  have hL := h.chn
  have hc : Chn V 0 n (L.take (i + 1) ++ R.drop i) := by
    refine ⟨fun p hp => ?_, List.pairwise_append.mpr ⟨hL.pw.sublist (List.take_sublist _ _), hR.pw.sublist (List.drop_sublist _ _), fun p hp q hq => ?_⟩⟩
    · rcases List.mem_append.mp hp with q | q
      · exact hL.each p (List.mem_of_mem_take q)
      · exact hR.each p (List.mem_of_mem_drop q)
    · obtain ⟨j, hj, rfl⟩ := List.mem_iff_getElem.mp hp
      obtain ⟨k, hk, rfl⟩ := List.mem_iff_getElem.mp hq
      rw [List.length_take] at hj
      rw [List.length_drop] at hk
      rw [List.getElem_take, List.getElem_drop]
      have a1 : (L[j]'(by omega)).2 ≤ L[i].2 := by
        rcases Nat.lt_or_ge j i with q | q
        · have := pw_lt hL hi q
          have := (hL.each L[i] (List.getElem_mem hi)).2.1
          omega
        · have e : j = i := by omega
          subst e; exact Nat.le_refl _
      have a2 : (R[i]'(by omega)).1 ≤ (R[i + k]'(by omega)).1 := by
        rcases Nat.eq_zero_or_pos k with q | q
        · subst q; exact Nat.le_refl _
        · have := pw_lt hR (i := i) (j := i + k) (by omega) (by omega)
          have := (hR.each (R[i]'(by omega)) (List.getElem_mem _)).2.1
          omega
      omega
  have := h.most hV (Nat.le_refl 0) hc
  rw [List.length_append, List.length_take, List.length_drop] at this
  omega
end
end SF
/-! ### more about greedy cuts -/
namespace SF
section
variable {V : Nat → Nat → Prop} {n : Nat}
/-- greedy cuts stay ahead of any chain -/
theorem Cuts.ahead (hV : VMono V) {b : Nat} {L : List (Nat × Nat)} (h : Cuts V n b L) : ∀ {b' : Nat} {M : List (Nat × Nat)}, b ≤ b' → Chn V b' n M → ∀ {i : Nat} (hi : i < L.length) (hj : i < M.length), L[i].2 ≤ M[i].2 := by
  induction h with
  | done _ _ => intro b' M _ _ i hi; exact absurd hi (Nat.not_lt_zero _)
  | @step b s e rest h1 h2 h3 h4 h5 h6 h7 h8 h9 ih =>
    intro b' M hb hM i hi hj
    cases M with
    | nil => exact absurd hj (Nat.not_lt_zero _)
    | cons p M =>
      obtain ⟨q1, q2, q3, q4⟩ := hM.each p List.mem_cons_self
      have he : e ≤ p.2 := Decidable.byContradiction fun z => q4 (hV.sub _ _ _ _ (by omega) (by omega) h4)
      cases i with
      | zero => exact he
      | succ i => exact ih he hM.tail (Nat.lt_of_succ_lt_succ hi) (Nat.lt_of_succ_lt_succ hj)
/-- each span is minimal, and there is none iff the whole row stands -/
structure Mini (V : Nat → Nat → Prop) (n : Nat) (L : List (Nat × Nat)) : Prop where
  each : ∀ p ∈ L, p.1 < p.2 ∧ p.2 ≤ n ∧ ¬ V p.1 p.2 ∧ V p.1 (p.2 - 1) ∧ V (p.1 + 1) p.2
  none : L = [] ↔ V 0 n
theorem Cuts.each (hV : VMono V) {b : Nat} {L : List (Nat × Nat)} (h : Cuts V n b L) : ∀ p ∈ L, p.1 < p.2 ∧ p.2 ≤ n ∧ ¬ V p.1 p.2 ∧ V p.1 (p.2 - 1) ∧ V (p.1 + 1) p.2 := by
  induction h with
  | done _ _ => intro p hp; cases hp
  | @step b s e rest h1 h2 h3 h4 h5 h6 h7 h8 h9 ih =>
    intro p hp
    rcases List.mem_cons.mp hp with rfl | hp
    · exact ⟨h6, h2, h7, hV.sub _ _ _ _ h5 (Nat.le_refl _) h4, h8⟩
    · exact ih p hp
theorem Cuts.none {b : Nat} (hV : VMono V) {L : List (Nat × Nat)} (h : Cuts V n b L) : L = [] ↔ V b n := by
  cases h with
  | done _ hv => exact ⟨fun _ => hv, fun _ => rfl⟩
  | step h1 h2 h3 => exact ⟨fun q => (by cases q), fun q => absurd (hV.sub _ _ _ _ (Nat.le_refl _) h2 q) h3⟩
theorem Cuts.mini (hV : VMono V) {L : List (Nat × Nat)} (h : Cuts V n 0 L) : Mini V n L := ⟨h.each hV, h.none hV⟩
theorem mirL_mem {L : List (Nat × Nat)} {p : Nat × Nat} : p ∈ mirL n L ↔ ∃ q ∈ L, p = (n - q.2, n - q.1) := by
  unfold mirL
  rw [List.mem_map]
  constructor
  · rintro ⟨q, h1, h2⟩; exact ⟨q, List.mem_reverse.mp h1, h2.symm⟩
  · rintro ⟨q, h1, h2⟩; exact ⟨q, List.mem_reverse.mpr h1, h2.symm⟩
theorem Mini.mir {L : List (Nat × Nat)} (h : Mini (mirV V n) n L) : Mini V n (mirL n L) := by
  refine ⟨fun p hp => ?_, ?_⟩
  · obtain ⟨q, h1, rfl⟩ := mirL_mem.mp hp
    obtain ⟨a, b, c, d, e⟩ := h.each q h1
    unfold mirV at c d e
    refine ⟨by dsimp only; omega, by dsimp only; omega, c, ?_, ?_⟩
    · have : n - q.1 - 1 = n - (q.1 + 1) := by omega
      dsimp only; rw [this]; exact e
    · have : n - q.2 + 1 = n - (q.2 - 1) := by omega
      dsimp only; rw [this]; exact d
  · have := h.none
    unfold mirV at this
    rw [Nat.sub_self, Nat.sub_zero] at this
    rw [← this, ← List.length_eq_zero_iff, mirL_len, List.length_eq_zero_iff]
/-- what stands between the starts of spans found from the end -/
def Bk (V : Nat → Nat → Prop) (n : Nat) : Nat → List (Nat × Nat) → Prop
  | b, [] => V b n
  | b, p :: L => V b p.1 ∧ Bk V n (p.1 + 1) L
theorem Cuts.bk {b : Nat} {M : List (Nat × Nat)} (h : Cuts (mirV V n) n b M) : ∀ {T : List (Nat × Nat)}, (∀ x, V x (n - b) → Bk V n x T) → Bk V n 0 (mirL n M ++ T) := by
  induction h with
  | @done b hb hv =>
    intro T hT
    refine hT 0 ?_
    unfold mirV at hv
    rw [Nat.sub_self] at hv
    exact hv
  | @step b s e rest h1 h2 h3 h4 h5 h6 h7 h8 h9 ih =>
    intro T hT
    have : mirL n ((s, e) :: rest) ++ T = mirL n rest ++ ((n - e, n - s) :: T) := by
      unfold mirL
      rw [List.reverse_cons, List.map_append, List.append_assoc]; rfl
    rw [this]
    refine ih fun x hx => ⟨hx, hT _ ?_⟩
    unfold mirV at h4
    rw [show n - e + 1 = n - (e - 1) by omega]
    exact h4
theorem Cuts.back {M : List (Nat × Nat)} (h : Cuts (mirV V n) n 0 M) : Bk V n 0 (mirL n M) := by
  have := h.bk (T := []) fun x hx => hx
  rwa [List.append_nil] at this
theorem mirL_get {L : List (Nat × Nat)} {i : Nat} (hi : i < L.length) (h : i < (mirL n L).length) : (mirL n L)[i] = (n - (L[L.length - 1 - i]'(by omega)).2, n - (L[L.length - 1 - i]'(by omega)).1) := by
  have e : ∀ (l : List (Nat × Nat)) (hl : i < l.length), l = (L.reverse).map (fun p => (n - p.2, n - p.1)) → l[i] = (n - (L[L.length - 1 - i]'(by omega)).2, n - (L[L.length - 1 - i]'(by omega)).1) := by
    rintro l hl rfl
    rw [List.getElem_map, List.getElem_reverse]
  exact e _ h rfl
/-- the starts of the spans from the end lie in the spans from the start -/
theorem cuts_starts (hV : VMono V) {L M : List (Nat × Nat)} (h : Cuts V n 0 L) (h' : Cuts (mirV V n) n 0 M) {i : Nat} (hi : i < L.length) (hj : i < (mirL n M).length) : L[i].1 ≤ ((mirL n M)[i]).1 ∧ ((mirL n M)[i]).1 < L[i].2 := by
  have hs := cuts_same hV h h'
  have hm : i < M.length := by omega
  refine ⟨?_, cuts_window hV h h'.chn.mir (by rw [mirL_len]; exact hs) hi⟩
  have ha := h'.ahead (mirV_mono hV) (Nat.le_refl 0) h.chn.mir' (i := M.length - 1 - i) (by omega) (by rw [mirL_len]; omega)
  rw [mirL_get hm]
  rw [mirL_get (by omega)] at ha
  have e : L.length - 1 - (M.length - 1 - i) = i := by omega
  have hc := (h.chn.each L[i] (List.getElem_mem hi)).2
  simp only [e] at ha
  dsimp only
  omega
theorem cuts_one (hV : VMono V) {b : Nat} {L : List (Nat × Nat)} (h : Cuts V n b L) : ∀ {L' : List (Nat × Nat)}, Cuts V n b L' → L = L' := by
  induction h with
  | @done b hb hv =>
    intro L' h'
    cases h' with
    | done _ _ => rfl
    | step h1 h2 h3 => exact absurd (hV.sub _ _ _ _ (Nat.le_refl _) h2 hv) h3
  | @step b s e rest h1 h2 h3 h4 h5 h6 h7 h8 h9 ih =>
    intro L' h'
    cases h' with
    | done _ hv => exact absurd (hV.sub _ _ _ _ (Nat.le_refl _) h2 hv) h3
    | @step _ s' e' rest' k1 k2 k3 k4 k5 k6 k7 k8 k9 =>
      have he : e = e' := by
        rcases Nat.lt_trichotomy e e' with q | q | q
        · exact absurd (hV.sub _ _ _ _ (Nat.le_refl _) (by omega) k4) h3
        · exact q
        · exact absurd (hV.sub _ _ _ _ (Nat.le_refl _) (by omega) h4) k3
      subst he
      have hs : s = s' := by
        rcases Nat.lt_trichotomy s s' with q | q | q
        · exact absurd (hV.sub _ _ _ _ (by omega) (Nat.le_refl _) h8) k7
        · exact q
        · exact absurd (hV.sub _ _ _ _ (by omega) (Nat.le_refl _) k8) h7
      subst hs
      rw [ih k9]
end
end SF
/-! ### charts, no program in sight: what the columns hold -/
namespace SF
def bodyAt (t : Tab) (n : Nat) : List Nat := (t.pairs[n]?.map (·.2)).getD []
/-- y continues to any string that γ derives: a string of S -/
def Ctx (U : List Rule) (S y γ : List Nat) : Prop := ∀ z, DerW U γ z → DerW U S (y ++ z)
theorem DerW.split {U : List Rule} : ∀ {a b w : List Nat}, DerW U (a ++ b) w → ∃ w1 w2, w = w1 ++ w2 ∧ DerW U a w1 ∧ DerW U b w2 := by
  intro a
  induction a with
  | nil => intro b w h; exact ⟨[], w, rfl, .nil, h⟩
  | cons c a ih =>
    intro b w h
    generalize hx : c :: a ++ b = x at h
    cases h with
    | nil => cases hx
    | sign hc h =>
      injection hx with h1 h2
      subst h1 h2
      obtain ⟨w1, w2, rfl, g1, g2⟩ := ih h
      exact ⟨_, w2, rfl, .sign hc g1, g2⟩
    | name hr hn h1 h2 =>
      injection hx with e1 e2
      subst e1 e2
      obtain ⟨w1, w2, rfl, g1, g2⟩ := ih h2
      exact ⟨_, w2, (List.append_assoc _ _ _).symm, .name hr hn h1 g1, g2⟩
theorem Ctx.eat {U : List Rule} {S y α γ w : List Nat} (h : Ctx U S y (α ++ γ)) (hw : DerW U α w) : Ctx U S (y ++ w) γ := fun z hz => by
  rw [List.append_assoc]
  exact h _ (hw.app hz)
theorem Ctx.expand {U : List Rule} {S y γ : List Nat} {r : Rule} (h : Ctx U S y (r.1 :: γ)) (hr : r ∈ U) (hn : nam r.1 = true) : Ctx U S y (r.2 ++ γ) := fun z hz => by
  obtain ⟨w1, w2, rfl, g1, g2⟩ := hz.split
  exact h _ (.name hr hn g1 g2)
structure TabOk (t : Tab) (U : List Rule) (S : List Nat) : Prop where
  pair : ∀ n ∈ t.numbers, ∃ q, t.pairs[n]? = some q
  named : ∀ s n, n ∈ (aGet t.byName s).getD [] ↔ n ∈ t.numbers ∧ t.pairs[n]?.map (·.1) = some s
  rule : ∀ n ∈ t.numbers, ∀ A, t.pairs[n]?.map (·.1) = some [A] → nam A = true ∧ (A, bodyAt t n) ∈ U
  here : ∀ r ∈ U, ∃ n ∈ t.numbers, t.pairs[n]? = some ([r.1], r.2)
  start : ∃ n ∈ t.numbers, bodyAt t n = S
  prod : ∀ n ∈ t.numbers, ∃ w, DerW U (bodyAt t n) w
  ctx : ∀ n ∈ t.numbers, ∃ y β, Ctx U S y (bodyAt t n ++ β) ∧ ∃ z, DerW U β z
  van : ∀ A, (aGet t.vanishing A).isSome = true → DerW U [A] []
  van2 : ∀ r ∈ U, DerW U r.2 [] → (aGet t.vanishing r.1).isSome = true
abbrev It3 : Type := Nat × Nat × Nat
/-- what follows from item x in column k -/
inductive Cons (t : Tab) (col : Nat → It3 → Prop) (k : Nat) : It3 → It3 → Prop
  | begun {n d o s n'} : (bodyAt t n)[d]? = some s → n' ∈ (aGet t.byName [s]).getD [] → Cons t col k (n, d, o) (n', 0, k)
  | skip {n d o s} : (bodyAt t n)[d]? = some s → (aGet t.vanishing s).isSome = true → Cons t col k (n, d, o) (n, d + 1, o)
  | join {n d o n2 d2 o2 s} : d = (bodyAt t n).length → o ≠ k → t.pairs[n]?.map (·.1) = some [s] → col o (n2, d2, o2) → (bodyAt t n2)[d2]? = some s → Cons t col k (n, d, o) (n2, d2 + 1, o2)
structure Chart (t : Tab) (f : List Nat) (col : Nat → It3 → Prop) : Prop where
  c0 : ∀ n d o, col 0 (n, d, o) ↔ n ∈ t.numbers ∧ d ≤ (bodyAt t n).length ∧ o = 0
  scan : ∀ k c n d o, f[k]? = some c → col k (n, d, o) → (bodyAt t n)[d]? = some c → col (k + 1) (n, d + 1, o)
  clo : ∀ k x y, k < f.length → col (k + 1) x → Cons t col (k + 1) x y → col (k + 1) y
  least : ∀ k c (Q : It3 → Prop), f[k]? = some c → (∀ n d o, col k (n, d, o) → (bodyAt t n)[d]? = some c → Q (n, d + 1, o)) → (∀ x y, col (k + 1) x → Q x → Cons t col (k + 1) x y → Q y) → ∀ x, col (k + 1) x → Q x
section
variable {t : Tab} {U : List Rule} {S f : List Nat} {col : Nat → It3 → Prop}
def Snd (t : Tab) (U : List Rule) (S f : List Nat) (k : Nat) : It3 → Prop := fun x => x.1 ∈ t.numbers ∧ x.2.1 ≤ (bodyAt t x.1).length ∧ x.2.2 ≤ k ∧
  ∃ y β w, Ctx U S y (bodyAt t x.1 ++ β) ∧ (∃ z, DerW U β z) ∧ DerW U ((bodyAt t x.1).take x.2.1) w ∧ (0 < x.2.2 → f.take x.2.2 <:+ y ∧ w = (f.take k).drop x.2.2) ∧ (x.2.2 = 0 → f.take k <:+ w)
theorem take_succ_of {l : List Nat} {k c : Nat} (h : l[k]? = some c) : l.take (k + 1) = l.take k ++ [c] := by
  rw [List.take_add_one, h]; rfl
theorem lt_of_get {l : List Nat} {k c : Nat} (h : l[k]? = some c) : k < l.length := (List.getElem?_eq_some_iff.mp h).1
theorem drop_take_succ {f : List Nat} {k o c : Nat} (h : f[k]? = some c) (ho : o ≤ k) : (f.take (k + 1)).drop o = (f.take k).drop o ++ [c] := by
  rw [take_succ_of h, List.drop_append_of_le_length (by rw [List.length_take]; have := lt_of_get h; omega)]
theorem suf_glue {f : List Nat} {o k : Nat} (ho : o ≤ k) : f.take k = f.take o ++ (f.take k).drop o := by
  conv => lhs; rw [← List.take_append_drop o (f.take k)]
  rw [List.take_take, Nat.min_eq_left ho]
theorem suf_app {a b c : List Nat} (h : a <:+ b) : a ++ c <:+ b ++ c := by
  obtain ⟨x, rfl⟩ := h
  exact ⟨x, by simp⟩
theorem suf_mono {a b c : List Nat} (h : a <:+ b) : a <:+ c ++ b := by
  obtain ⟨x, rfl⟩ := h
  exact ⟨c ++ x, by simp⟩
/-- what stands ahead of an item's dot ends with the fragment so far -/
theorem Snd.suf {k : Nat} {x : It3} (h : Snd t U S f k x) : ∃ y γ, Ctx U S y ((bodyAt t x.1).drop x.2.1 ++ γ) ∧ (∃ z, DerW U γ z) ∧ f.take k <:+ y := by
  obtain ⟨h1, h2, h3, y, β, w, c1, c2, c3, c4, c5⟩ := h
  refine ⟨y ++ w, β, Ctx.eat (α := (bodyAt t x.1).take x.2.1) ?_ c3, c2, ?_⟩
  · rw [← List.append_assoc, List.take_append_drop]; exact c1
  · rcases Nat.eq_zero_or_pos x.2.2 with h0 | h0
    · exact suf_mono (c5 h0)
    · obtain ⟨d1, rfl⟩ := c4 h0
      conv => lhs; rw [suf_glue h3]
      exact suf_app d1
theorem snd_cons (T : TabOk t U S) {k : Nat} {x y : It3} (hk : 0 < k) (hcol : ∀ o z, o < k → col o z → Snd t U S f o z) (h : Snd t U S f k x) (hc : Cons t col k x y) : Snd t U S f k y := by
  cases hc with
  | @begun n d o s n' hb hn =>
    obtain ⟨hn1, hn2⟩ := (T.named _ _).mp hn
    obtain ⟨ha, hr⟩ := T.rule n' hn1 s hn2
    obtain ⟨y, γ, g1, g2, g3⟩ := h.suf
    have hd : (bodyAt t n).drop d = s :: (bodyAt t n).drop (d + 1) := by
      rw [List.drop_eq_getElem_cons (lt_of_get hb)]
      congr 1
      have := List.getElem?_eq_getElem (lt_of_get hb)
      rw [hb] at this
      exact (Option.some.inj this).symm
    obtain ⟨wb, hwb⟩ := T.prod n h.1
    obtain ⟨w1, w2, e, _, q2⟩ := DerW.split (a := (bodyAt t n).take (d + 1)) (b := (bodyAt t n).drop (d + 1)) (by rw [List.take_append_drop]; exact hwb)
    obtain ⟨z, hz⟩ := g2
    have g1 : Ctx U S y ((bodyAt t n).drop d ++ γ) := g1
    rw [hd] at g1
    refine ⟨hn1, Nat.zero_le _, Nat.le_refl _, y, (bodyAt t n).drop (d + 1) ++ γ, [], ?_, ⟨_, q2.app hz⟩, ?_, fun _ => ⟨g3, ?_⟩, fun h0 => absurd h0 (by show k ≠ 0; omega)⟩
    · exact Ctx.expand (r := (s, bodyAt t n')) (by simpa using g1) hr ha
    · exact .nil
    · show [] = (f.take k).drop k
      rw [List.drop_of_length_le (by rw [List.length_take]; omega)]
  | @skip n d o s hb hv =>
    obtain ⟨h1, h2, h3, y, β, w, c1, c2, c3, c4, c5⟩ := h
    refine ⟨h1, lt_of_get hb, h3, y, β, w, c1, c2, ?_, c4, c5⟩
    show DerW U ((bodyAt t n).take (d + 1)) w
    rw [take_succ_of hb, ← List.append_nil w]
    exact DerW.app c3 (T.van s hv)
  | @join n d o n2 d2 o2 s hd ho hh hc2 hb2 =>
    obtain ⟨h1, h2, h3, y, β, w, c1, c2, c3, c4, c5⟩ := h
    have h3 : o ≤ k := h3
    have hok : o < k := by omega
    obtain ⟨g1, g2, g3, y2, β2, w2, e1, e2, e3, e4, e5⟩ := hcol o _ hok hc2
    obtain ⟨ha, hr⟩ := T.rule n h1 s hh
    have c3 : DerW U ((bodyAt t n).take d) w := c3
    rw [hd, List.take_length] at c3
    have hw : DerW U [s] w := by
      have := DerW.name hr ha c3 .nil
      rwa [List.append_nil] at this
    have g3 : o2 ≤ o := g3
    refine ⟨g1, lt_of_get hb2, by show o2 ≤ k; omega, y2, β2, w2 ++ w, e1, e2, ?_, fun h0 => ?_, fun h0 => ?_⟩
    · show DerW U ((bodyAt t n2).take (d2 + 1)) (w2 ++ w)
      rw [take_succ_of hb2]
      exact DerW.app e3 hw
    · have h0 : 0 < o2 := h0
      obtain ⟨q1, q2⟩ := e4 h0
      obtain ⟨p1, p2⟩ := c4 (show 0 < o by omega)
      have q2 : w2 = (f.take o).drop o2 := q2
      have p2 : w = (f.take k).drop o := p2
      refine ⟨q1, ?_⟩
      show w2 ++ w = (f.take k).drop o2
      rw [q2, p2]
      conv => rhs; rw [suf_glue (f := f) (Nat.le_of_lt hok)]
      by_cases hl : o2 ≤ (f.take o).length
      · rw [List.drop_append_of_le_length hl]
      · have hl : (f.take o).length < o2 := by omega
        rw [List.drop_of_length_le (Nat.le_of_lt hl)]
        rw [List.length_take] at hl
        have hf : f.length ≤ o2 := by omega
        rw [List.drop_of_length_le (l := f.take k) (i := o) (by rw [List.length_take]; omega), List.append_nil, List.append_nil, List.drop_of_length_le (by rw [List.length_take]; omega)]
    · have q := e5 h0
      have q : f.take o <:+ w2 := q
      rcases Nat.eq_zero_or_pos o with hz | hz
      · exact suf_mono (c5 hz)
      · obtain ⟨p1, p2⟩ := c4 hz
        have p2 : w = (f.take k).drop o := p2
        rw [suf_glue (f := f) (Nat.le_of_lt hok), p2]
        exact suf_app q
theorem chart_snd (T : TabOk t U S) (C : Chart t f col) (hf : ∀ c ∈ f, nam c = false) : ∀ k, k ≤ f.length → ∀ j, j ≤ k → ∀ x, col j x → Snd t U S f j x := by
  intro k
  induction k with
  | zero =>
    intro _ j hj x hx
    obtain rfl : j = 0 := by omega
    obtain ⟨n, d, o⟩ := x
    obtain ⟨h1, h2, rfl⟩ := (C.c0 n d o).mp hx
    obtain ⟨y, β, c1, c2⟩ := T.ctx n h1
    obtain ⟨wb, hwb⟩ := T.prod n h1
    obtain ⟨w1, w2, e, q1, _⟩ := DerW.split (a := (bodyAt t n).take d) (b := (bodyAt t n).drop d) (by rw [List.take_append_drop]; exact hwb)
    exact ⟨h1, h2, Nat.le_refl _, y, β, w1, c1, c2, q1, fun h => absurd h (by show ¬ 0 < 0; omega), fun _ => ⟨w1, by simp⟩⟩
  | succ k ih =>
    intro hk j hj x hx
    rcases Nat.lt_or_ge j (k + 1) with hlt | hge
    · exact ih (by omega) j (by omega) x hx
    obtain rfl : j = k + 1 := by omega
    have hk' : k < f.length := by omega
    have hfk : f[k]? = some f[k] := List.getElem?_eq_getElem hk'
    refine C.least k f[k] (Snd t U S f (k + 1)) hfk (fun n d o hc hb => ?_) (fun x y hx hq hc => ?_) x hx
    · obtain ⟨h1, h2, h3, y, β, w, c1, c2, c3, c4, c5⟩ := ih (by omega) k (Nat.le_refl _) _ hc
      have h3 : o ≤ k := h3
      have hcs : DerW U [f[k]] [f[k]] := .sign (hf _ (List.getElem_mem hk')) .nil
      have hb : (bodyAt t n)[d]? = some f[k] := hb
      refine ⟨h1, lt_of_get hb, by show o ≤ k + 1; omega, y, β, w ++ [f[k]], c1, c2, ?_, fun h0 => ?_, fun h0 => ?_⟩
      · show DerW U ((bodyAt t n).take (d + 1)) _
        rw [take_succ_of hb]
        exact DerW.app c3 hcs
      · obtain ⟨q1, q2⟩ := c4 h0
        have q2 : w = (f.take k).drop o := q2
        refine ⟨q1, ?_⟩
        show w ++ [f[k]] = (f.take (k + 1)).drop o
        rw [drop_take_succ hfk h3, q2]
      · rw [take_succ_of hfk]
        exact suf_app (c5 h0)
    · exact snd_cons T (Nat.succ_pos _) (fun o z ho hz => ih (by omega) o (by omega) z hz) hq hc
/-- an item in the last column: the fragment stands in a row -/
theorem chart_sound (T : TabOk t U S) (C : Chart t f col) (hf : ∀ c ∈ f, nam c = false) {x : It3} (hx : col f.length x) : ∃ w, DerW U S w ∧ f <:+: w := by
  have h := chart_snd T C hf f.length (Nat.le_refl _) f.length (Nat.le_refl _) x hx
  obtain ⟨y, γ, c1, ⟨z, hz⟩, c3⟩ := h.suf
  obtain ⟨wb, hwb⟩ := T.prod x.1 h.1
  obtain ⟨w1, w2, e, _, q2⟩ := DerW.split (a := (bodyAt t x.1).take x.2.1) (b := (bodyAt t x.1).drop x.2.1) (by rw [List.take_append_drop]; exact hwb)
  refine ⟨_, c1 _ (q2.app hz), ?_⟩
  rw [List.take_length] at c3
  obtain ⟨p, rfl⟩ := c3
  exact ⟨p, w2 ++ z, by simp⟩
/-! the other way -/
/-- the row's column: ahead of the fragment all stands in the first -/
theorem adv (T : TabOk t U S) (C : Chart t f col) {w : List Nat} {p : Nat} (hw : ∀ k, k < f.length → w[p + k]? = f[k]?) : ∀ {γ v : List Nat}, DerW U γ v → ∀ (n d b i : Nat) (pre post δ : List Nat), (bodyAt t n).drop d = γ ++ δ → w = pre ++ v ++ post → pre.length = i → i + v.length ≤ p + f.length → b ≤ i → n ∈ t.numbers → col (i - p) (n, d, b - p) → col (i + v.length - p) (n, d + γ.length, b - p) := by
  intro γ v h
  induction h with
  | nil => intro n d b i pre post δ _ _ _ _ _ _ hc; simpa using hc
  | @sign c b' v' hc h ih =>
    intro n d b i pre post δ hd e hi hm hb hn hcol
    have hget : (bodyAt t n)[d]? = some c := by
      have := congrArg (·[0]?) hd
      simpa using this
    have hdl := lt_of_get hget
    have h1 : col (i + 1 - p) (n, d + 1, b - p) := by
      by_cases hip : i + 1 ≤ p
      · rw [show i + 1 - p = 0 by omega, show b - p = 0 by omega]
        exact (C.c0 _ _ _).mpr ⟨hn, hdl, rfl⟩
      · rw [show i + 1 - p = (i - p) + 1 by omega]
        refine C.scan (i - p) c n d (b - p) ?_ hcol hget
        have hl : (c :: v').length = v'.length + 1 := rfl
        rw [← hw (i - p) (by omega), show p + (i - p) = i by omega, e, ← hi, List.append_assoc, List.getElem?_append_right (Nat.le_refl _)]
        simp
    have h2 := ih n (d + 1) b (i + 1) (pre ++ [c]) post δ (by
      have : (bodyAt t n).drop (d + 1) = ((bodyAt t n).drop d).drop 1 := by rw [List.drop_drop]
      rw [this, hd]; rfl) (by rw [e]; simp) (by simp [hi]) (by have hl : (c :: v').length = v'.length + 1 := rfl; omega) (by omega) hn h1
    rw [show i + (c :: v').length - p = i + 1 + v'.length - p by have hl : (c :: v').length = v'.length + 1 := rfl; omega, show d + (c :: b').length = d + 1 + b'.length by have hl : (c :: b').length = b'.length + 1 := rfl; omega]
    exact h2
  | @name r b' v1 v2 hr hnm hv1 hv2 ih1 ih2 =>
    intro n d b i pre post δ hd e hi hm hb hn hcol
    rw [List.length_append] at hm
    have hget : (bodyAt t n)[d]? = some r.1 := by
      have := congrArg (·[0]?) hd
      simpa using this
    have hdl := lt_of_get hget
    have h1 : col (i + v1.length - p) (n, d + 1, b - p) := by
      by_cases hip : i + v1.length ≤ p
      · rw [show i + v1.length - p = 0 by omega, show b - p = 0 by omega]
        exact (C.c0 _ _ _).mpr ⟨hn, hdl, rfl⟩
      · rcases Nat.eq_zero_or_pos v1.length with hz | hz
        · obtain rfl := List.length_eq_zero_iff.mp hz
          have hip2 : p < i := by simp at hip; omega
          rw [List.length_nil, Nat.add_zero, show i - p = (i - p - 1) + 1 by omega]
          rw [show i - p = (i - p - 1) + 1 by omega] at hcol
          have hsk := T.van2 r hr hv1
          have hl2 : i - p - 1 < f.length := by omega
          exact C.clo (i - p - 1) _ _ hl2 hcol (.skip hget hsk)
        · obtain ⟨n', hn', hp'⟩ := T.here r hr
          have hb' : bodyAt t n' = r.2 := by unfold bodyAt; rw [hp']; rfl
          have hnamed : n' ∈ (aGet t.byName [r.1]).getD [] := (T.named _ _).mpr ⟨hn', by rw [hp']; rfl⟩
          have h0 : col (i - p) (n', 0, i - p) := by
            by_cases hz2 : i ≤ p
            · rw [show i - p = 0 by omega]
              exact (C.c0 _ _ _).mpr ⟨hn', Nat.zero_le _, rfl⟩
            · rw [show i - p = (i - p - 1) + 1 by omega]
              rw [show i - p = (i - p - 1) + 1 by omega] at hcol
              exact C.clo (i - p - 1) _ _ (by omega) hcol (.begun hget hnamed)
          have h2 := ih1 n' 0 i i pre (v2 ++ post) [] (by rw [List.drop_zero, hb', List.append_nil]) (by rw [e]; simp) hi (by omega) (Nat.le_refl _) hn' h0
          rw [Nat.zero_add] at h2
          have ej : i + v1.length - p = (i + v1.length - p - 1) + 1 := by omega
          rw [ej] at h2 ⊢
          refine C.clo _ _ _ (by omega) h2 (.join (by rw [hb']) (by omega) (by rw [hp']; rfl) hcol hget)
    have h2 := ih2 n (d + 1) b (i + v1.length) (pre ++ v1) post δ (by
      have : (bodyAt t n).drop (d + 1) = ((bodyAt t n).drop d).drop 1 := by rw [List.drop_drop]
      rw [this, hd]; rfl) (by rw [e]; simp) (by simp [hi]) (by omega) (by omega) hn h1
    rw [List.length_append, show i + (v1.length + v2.length) - p = i + v1.length + v2.length - p by omega, show d + (r.1 :: b').length = d + 1 + b'.length by have hl : (r.1 :: b').length = b'.length + 1 := rfl; omega]
    exact h2
theorem reach (T : TabOk t U S) (C : Chart t f col) {w : List Nat} {p : Nat} (hw : ∀ k, k < f.length → w[p + k]? = f[k]?) (hf0 : 0 < f.length) : ∀ {γ v : List Nat}, DerW U γ v → ∀ (n d b i : Nat) (pre post δ : List Nat), (bodyAt t n).drop d = γ ++ δ → w = pre ++ v ++ post → pre.length = i → i ≤ p + f.length → p + f.length ≤ i + v.length → b ≤ i → n ∈ t.numbers → col (i - p) (n, d, b - p) → ∃ x, col f.length x := by
  intro γ v h
  induction h with
  | nil =>
    intro n d b i pre post δ _ _ _ h1 h2 _ _ hc
    have : i - p = f.length := by simp at h2; omega
    rw [this] at hc
    exact ⟨_, hc⟩
  | @sign c b' v' hc h ih =>
    intro n d b i pre post δ hd e hi h1 h2 hb hn hcol
    rcases Nat.lt_or_ge i (p + f.length) with hlt | hge
    · have hl : (c :: v').length = v'.length + 1 := rfl
      have a1 := adv T C hw (.sign hc .nil : DerW U [c] [c]) n d b i pre (v' ++ post) (b' ++ δ) (by rw [hd]; rfl) (by rw [e]; simp) hi (by simp; omega) hb hn hcol
      exact ih n (d + 1) b (i + 1) (pre ++ [c]) post δ (by
        have : (bodyAt t n).drop (d + 1) = ((bodyAt t n).drop d).drop 1 := by rw [List.drop_drop]
        rw [this, hd]; rfl) (by rw [e]; simp) (by simp [hi]) (by omega) (by omega) (by omega) hn a1
    · have : i - p = f.length := by omega
      rw [this] at hcol
      exact ⟨_, hcol⟩
  | @name r b' v1 v2 hr hnm hv1 hv2 ih1 ih2 =>
    intro n d b i pre post δ hd e hi h1 h2 hb hn hcol
    rw [List.length_append] at h2
    rcases Nat.le_total (i + v1.length) (p + f.length) with hle | hge
    · have hone : DerW U [r.1] v1 := by
        have := DerW.name hr hnm hv1 .nil
        rwa [List.append_nil] at this
      have a1 := adv T C hw hone n d b i pre (v2 ++ post) (b' ++ δ) (by rw [hd]; rfl) (by rw [e]; simp) hi hle hb hn hcol
      exact ih2 n (d + 1) b (i + v1.length) (pre ++ v1) post δ (by
        have : (bodyAt t n).drop (d + 1) = ((bodyAt t n).drop d).drop 1 := by rw [List.drop_drop]
        rw [this, hd]; rfl) (by rw [e]; simp) (by simp [hi]) hle (by omega) (by omega) hn a1
    · have hget : (bodyAt t n)[d]? = some r.1 := by
        have := congrArg (·[0]?) hd
        simpa using this
      rcases Nat.lt_or_ge i (p + f.length) with hlt | hge2
      · obtain ⟨n', hn', hp'⟩ := T.here r hr
        have hb' : bodyAt t n' = r.2 := by unfold bodyAt; rw [hp']; rfl
        have hnamed : n' ∈ (aGet t.byName [r.1]).getD [] := (T.named _ _).mpr ⟨hn', by rw [hp']; rfl⟩
        have h0 : col (i - p) (n', 0, i - p) := by
          by_cases hz2 : i ≤ p
          · rw [show i - p = 0 by omega]
            exact (C.c0 _ _ _).mpr ⟨hn', Nat.zero_le _, rfl⟩
          · rw [show i - p = (i - p - 1) + 1 by omega]
            rw [show i - p = (i - p - 1) + 1 by omega] at hcol
            exact C.clo (i - p - 1) _ _ (by omega) hcol (.begun hget hnamed)
        exact ih1 n' 0 i i pre (v2 ++ post) [] (by rw [List.drop_zero, hb', List.append_nil]) (by rw [e]; simp) hi h1 hge (Nat.le_refl _) hn' h0
      · have : i - p = f.length := by omega
        rw [this] at hcol
        exact ⟨_, hcol⟩
theorem chart_complete (T : TabOk t U S) (C : Chart t f col) {w : List Nat} (hw : DerW U S w) (hi : f <:+: w) : ∃ x, col f.length x := by
  obtain ⟨n, hn, hb⟩ := T.start
  obtain ⟨u, v, e⟩ := hi
  have h0 : col 0 (n, 0, 0) := (C.c0 _ _ _).mpr ⟨hn, Nat.zero_le _, rfl⟩
  rcases Nat.eq_zero_or_pos f.length with hz | hz
  · rw [hz]; exact ⟨_, h0⟩
  · refine reach T C (w := w) (p := u.length) (fun k hk => ?_) hz hw n 0 0 0 [] [] [] (by rw [List.drop_zero, hb, List.append_nil]) (by simp) rfl (Nat.zero_le _) (by rw [← e]; simp) (Nat.le_refl _) hn (by simpa using h0)
    rw [← e, List.append_assoc, List.getElem?_append_right (by omega), show u.length + k - u.length = k by omega, List.getElem?_append_left hk]
theorem chart_iff (T : TabOk t U S) (C : Chart t f col) (hf : ∀ c ∈ f, nam c = false) : (∃ x, col f.length x) ↔ ∃ w, DerW U S w ∧ f <:+: w :=
  ⟨fun ⟨_, hx⟩ => chart_sound T C hf hx, fun ⟨_, hw, hi⟩ => chart_complete T C hw hi⟩
end
end SF
/-! ### the tables of a grammar that is let -/
namespace SF
theorem keys_isSome {κ α : Type} [DecidableEq κ] {m : List (κ × α)} {k : κ} : (aGet m k).isSome = true ↔ k ∈ m.map (·.1) := by
  cases q : aGet m k with
  | none => exact ⟨fun h => absurd h Bool.false_ne_true, fun h => absurd h (aGet_none.mp q)⟩
  | some x => exact ⟨fun _ => List.mem_map.mpr ⟨_, aGet_mem q, rfl⟩, fun _ => rfl⟩
theorem DerW.word {U : List Rule} {b w : List Nat} (h : DerW U b w) : ∀ c ∈ w, nam c = false := by
  induction h with
  | nil => intro c hc; cases hc
  | sign hc _ ih =>
    intro x hx
    rcases List.mem_cons.mp hx with e | e
    · rw [e]; exact hc
    · exact ih x e
  | name _ _ _ _ ih1 ih2 =>
    intro x hx
    rcases List.mem_append.mp hx with e | e
    · exact ih1 x e
    · exact ih2 x e
theorem der_self {U : List Rule} : ∀ {w : List Nat}, (∀ c ∈ w, nam c = false) → DerW U w w
  | [], _ => .nil
  | c :: w, h => .sign (h c List.mem_cons_self) (der_self fun x hx => h x (List.mem_cons_of_mem _ hx))
theorem der_only {U : List Rule} {b w : List Nat} (h : DerW U b w) : (∀ c ∈ b, nam c = false) → w = b := by
  induction h with
  | nil => intro _; rfl
  | sign hc _ ih => intro q; rw [ih fun x hx => q x (List.mem_cons_of_mem _ hx)]
  | name hr hn _ _ _ _ => intro q; rw [q _ List.mem_cons_self] at hn; cases hn
theorem DerW.mono {U V : List Rule} (hU : ∀ r ∈ U, r ∈ V) {b w : List Nat} (h : DerW U b w) : DerW V b w := by
  induction h with
  | nil => exact .nil
  | sign hc _ ih => exact .sign hc ih
  | name hr hn _ _ ih1 ih2 => exact .name (hU _ hr) hn ih1 ih2
/-- the numbers by name, in order -/
theorem mkByName_get (pairs : List Pair) (s : List Nat) : ∀ (ns : List Nat) (m : List (List Nat × List Nat)), (aGet (ns.foldl (bnStep pairs) m) s).getD [] = (aGet m s).getD [] ++ ns.filter fun n => decide (headAt pairs n = s)
  | [], m => by simp
  | n :: ns, m => by
    rw [List.foldl_cons, mkByName_get pairs s ns, List.filter_cons]
    unfold bnStep
    rw [aGet_put]
    by_cases h : headAt pairs n = s
    · subst h
      simp
    · rw [if_neg (fun e => h e.symm), decide_eq_false h]; simp
def gU (g : Gram) : List Rule := g.useful.filterMap fun n => g.rules[n]?
def gS (g : Gram) : List Nat := [60, g.root, 62]
section
variable {g : Gram}
theorem gU_mem {r : Rule} : r ∈ gU g ↔ ∃ n ∈ g.useful, g.rules[n]? = some r := List.mem_filterMap
theorem gU_iff {r : Rule} : r ∈ gU g ↔ r ∈ g.rules ∧ r.1 ∈ reached g.rules g.root g.lens ∧ allIn g.lens r.2 = true := by
  rw [gU_mem]
  constructor
  · rintro ⟨n, hn, hr⟩
    obtain ⟨r', h1, h2⟩ := useful_mem.mp hn
    rw [hr] at h1
    obtain rfl := Option.some.inj h1
    unfold usefulAt at h2
    rw [Bool.and_eq_true, decide_eq_true_eq] at h2
    exact ⟨List.mem_of_getElem? hr, h2⟩
  · rintro ⟨h1, h2, h3⟩
    obtain ⟨n, hn, e⟩ := List.mem_iff_getElem.mp h1
    have hg : g.rules[n]? = some r := by rw [List.getElem?_eq_getElem hn, e]
    refine ⟨n, useful_mem.mpr ⟨r, hg, ?_⟩, hg⟩
    unfold usefulAt
    rw [Bool.and_eq_true, decide_eq_true_eq]
    exact ⟨h2, h3⟩
theorem gU_sub {r : Rule} (h : r ∈ gU g) : r ∈ g.rules := (gU_iff.mp h).1
theorem closed (h : PreOk g) {r : Rule} (hr : r ∈ g.rules) (h1 : r.1 ∈ reached g.rules g.root g.lens) (h2 : allIn g.lens r.2 = true) : ∀ x ∈ namesIn r.2, x ∈ reached g.rules g.root g.lens := (reached_ok h.nroot).2.2 r.1 h1 r hr rfl h2
/-- what a reached body derives, the useful rules derive -/
theorem der_gU (h : PreOk g) {b w : List Nat} (hd : DerW g.rules b w) : (∀ c ∈ namesIn b, c ∈ reached g.rules g.root g.lens) → DerW (gU g) b w := by
  induction hd with
  | nil => intro _; exact .nil
  | @sign c b w hc _ ih =>
    intro q
    refine .sign hc (ih fun x hx => q x ?_)
    unfold namesIn at hx ⊢
    rw [List.filter_cons, if_neg (by simp [hc])]; exact hx
  | @name r b w1 w2 hr hn h1 h2 ih1 ih2 =>
    intro q
    have e : namesIn (r.1 :: b) = r.1 :: namesIn b := by unfold namesIn; rw [List.filter_cons, if_pos hn]
    rw [e] at q
    have hre := q r.1 List.mem_cons_self
    have hal := (ll_least h.rok h1).1
    exact .name (gU_iff.mpr ⟨hr, hre, hal⟩) hn (ih1 (closed h hr hre hal)) (ih2 fun x hx => q x (List.mem_cons_of_mem _ hx))
theorem row_iff (h : PreOk g) {w : List Nat} : DerW (gU g) (gS g) w ↔ DerW g.rules (gS g) w := by
  refine ⟨DerW.mono fun r hr => gU_sub hr, fun hd => der_gU h hd fun c hc => ?_⟩
  unfold gS namesIn at hc
  rw [List.filter_cons, if_neg (by decide), List.filter_cons, if_pos h.nroot, List.filter_cons, if_neg (by decide)] at hc
  rw [List.mem_singleton.mp hc]
  exact (reached_ok h.nroot).1
theorem prod_of (h : PreOk g) {b : List Nat} (hb : allIn g.lens b = true) (hn : ∀ c ∈ namesIn b, c ∈ reached g.rules g.root g.lens) : ∃ w, DerW (gU g) b w := by
  obtain ⟨w, hw, _⟩ := (ll_sound h.rok).body hb
  exact ⟨w, der_gU h hw hn⟩
theorem names_app (a b : List Nat) : namesIn (a ++ b) = namesIn a ++ namesIn b := by unfold namesIn; exact List.filter_append ..
theorem allIn_app {m : List (Nat × Nat)} {a b : List Nat} (h : allIn m (a ++ b) = true) : allIn m a = true ∧ allIn m b = true := by
  unfold allIn at h ⊢
  rw [names_app, List.all_append, Bool.and_eq_true] at h
  exact h
/-- a name that stands somewhere in a row -/
def InRow (g : Gram) (c : Nat) : Prop := ∃ y z, ∀ v, DerW (gU g) [c] v → DerW (gU g) (gS g) (y ++ v ++ z)
theorem inRow (h : PreOk g) : ∀ c ∈ reached g.rules g.root g.lens, InRow g c := by
  have key : ∀ c ∈ reached g.rules g.root g.lens, c ∈ letters.filter fun c => @decide (c ∈ reached g.rules g.root g.lens ∧ InRow g c) (Classical.propDecidable _) := by
    have hro := reached_ok (rules := g.rules) (lens := g.lens) h.nroot
    have lett : ∀ c, nam c = true → c ∈ letters := fun c hc => by
      unfold letters
      rw [List.mem_map]
      have := nam_iff.mp hc
      exact ⟨c - 65, List.mem_range.mpr (by omega), by omega⟩
    refine ureach_least (fun c hc r hr hrc hal x hx => ?_) 27 [g.root] 0 (fun c hc => ?_)
    · rw [List.mem_filter, @decide_eq_true_eq _ (Classical.propDecidable _)] at hc
      obtain ⟨_, hre, y, z, hyz⟩ := hc
      rw [← hrc] at hre hyz
      have hcl := closed h hr hre hal
      rw [List.mem_filter, @decide_eq_true_eq _ (Classical.propDecidable _)]
      have hxn : nam x = true := by unfold namesIn at hx; exact (List.mem_filter.mp hx).2
      refine ⟨lett x hxn, hcl x hx, ?_⟩
      obtain ⟨a, b, e⟩ := List.append_of_mem (show x ∈ r.2 by unfold namesIn at hx; exact (List.mem_filter.mp hx).1)
      rw [e] at hal hcl
      obtain ⟨ha, hb⟩ := allIn_app hal
      obtain ⟨_, hb⟩ := allIn_app (a := [x]) (b := b) hb
      obtain ⟨wa, hwa⟩ := prod_of h ha fun c hc => hcl c (by rw [names_app]; exact List.mem_append_left _ hc)
      obtain ⟨wb, hwb⟩ := prod_of h hb fun c hc => hcl c (by
        rw [names_app]
        refine List.mem_append_right _ ?_
        rw [show x :: b = [x] ++ b from rfl, names_app]
        exact List.mem_append_right _ hc)
      have hrU : r ∈ gU g := gU_iff.mpr ⟨hr, hre, by rw [e]; rw [← e]; exact (by rw [e]; exact hal)⟩
      refine ⟨y ++ wa, wb ++ z, fun v hv => ?_⟩
      have := hyz (wa ++ (v ++ wb)) (by
        have hbody : DerW (gU g) r.2 (wa ++ (v ++ wb)) := by
          rw [e]
          exact hwa.app (DerW.app (a := [x]) hv hwb)
        have := DerW.name hrU (h.rok r hr).1 hbody .nil
        rwa [List.append_nil] at this)
      have e2 : y ++ wa ++ v ++ (wb ++ z) = y ++ (wa ++ (v ++ wb)) ++ z := by simp
      rw [e2]; exact this
    · rw [List.mem_singleton.mp hc, List.mem_filter, @decide_eq_true_eq _ (Classical.propDecidable _)]
      refine ⟨lett _ h.nroot, hro.1, [60], [62], fun v hv => ?_⟩
      unfold gS
      have h1 : DerW (gU g) ([60] ++ ([g.root] ++ [62])) ([60] ++ (v ++ [62])) := (der_self (by decide)).app (DerW.app hv (der_self (by decide)))
      simpa using h1
  intro c hc
  have := key c hc
  rw [List.mem_filter, @decide_eq_true_eq _ (Classical.propDecidable _)] at this
  exact this.2.2
theorem g_pair_u {n : Nat} {r : Rule} (h : g.rules[n]? = some r) : g.pairs[n]? = some ([r.1], r.2) := by
  unfold Gram.pairs
  rw [List.getElem?_append_left (by rw [List.length_map]; exact (List.getElem?_eq_some_iff.mp h).1), List.getElem?_map, h]; rfl
theorem g_pair_s : g.pairs[g.rules.length]? = some ([60, 62], gS g) := by
  unfold Gram.pairs gS
  rw [List.getElem?_append_right (by rw [List.length_map]; exact Nat.le_refl _), List.length_map]; simp
theorem g_numbers {n : Nat} : n ∈ g.numbers ↔ (∃ r, g.rules[n]? = some r ∧ r ∈ gU g ∧ n ∈ g.useful) ∨ n = g.rules.length := by
  unfold Gram.numbers
  rw [List.mem_append, List.mem_singleton]
  constructor
  · rintro (h | h)
    · obtain ⟨r, h1, _⟩ := useful_mem.mp h
      exact .inl ⟨r, h1, gU_mem.mpr ⟨n, h, h1⟩, h⟩
    · exact .inr h
  · rintro (⟨r, _, _, h⟩ | h)
    · exact .inl h
    · exact .inr h
theorem best_keys (h : PreOk g) : ∀ c ∈ g.best.map (·.1), c ∈ (gU g).map (·.1) := by
  have step : ∀ (st : Best × Bool) (n : Nat), n ∈ g.useful → (∀ c ∈ st.1.map (·.1), c ∈ (gU g).map (·.1)) → ∀ c ∈ (ldStep g.rules g.lens st n).1.map (·.1), c ∈ (gU g).map (·.1) := fun st n hn hp => by
    obtain ⟨r, hr, hro⟩ := h.rule hn
    by_cases hd : ldDue g.lens st.1 r = true
    · by_cases hb : ldBetter st.1 r = true
      · rw [ldStep_yes hr hd hb]
        intro c hc
        have hc : c ∈ (aPut st.1 r.1 (⟨ldSteps st.1 r.2, ldWord st.1 r.2, n⟩ : Tri Nat (List Nat) Nat)).map (·.1) := hc
        rw [aPut_keys] at hc
        split at hc
        · exact hp c hc
        · rcases List.mem_append.mp hc with z | z
          · exact hp c z
          · rw [List.mem_singleton.mp z]
            exact List.mem_map.mpr ⟨r, gU_mem.mpr ⟨n, hn, hr⟩, rfl⟩
      · rw [ldStep_no2 hr (by simpa using hb)]; exact hp
    · rw [ldStep_no hr (by simpa using hd)]; exact hp
  have round : ∀ m : Best, (∀ c ∈ m.map (·.1), c ∈ (gU g).map (·.1)) → ∀ c ∈ (ldRound g.rules g.lens g.useful m).1.map (·.1), c ∈ (gU g).map (·.1) := fun m hm =>
    foldl_keep (fun st : Best × Bool => ∀ c ∈ st.1.map (·.1), c ∈ (gU g).map (·.1)) (fun st n hn hp => step st n hn hp) (x := (m, false)) hm
  have all : ∀ (n : Nat) (m : Best), (∀ c ∈ m.map (·.1), c ∈ (gU g).map (·.1)) → ∀ c ∈ (rounds (ldRound g.rules g.lens g.useful) n m).map (·.1), c ∈ (gU g).map (·.1) := by
    intro n
    induction n with
    | zero => intro m hm; exact hm
    | succ n ih =>
      intro m hm
      have h2 := round m hm
      unfold rounds
      split
      · exact ih _ h2
      · exact h2
  exact all _ _ (fun c hc => by cases hc)
theorem best_reached (p : PreOk g) : ∀ c ∈ g.best.map (·.1), c ∈ reached g.rules g.root g.lens ∧ (aGet g.lens c).isSome = true := fun c hc => by
  refine ⟨?_, p.bestOk.1.hl c hc⟩
  obtain ⟨r, hr, rfl⟩ := List.mem_map.mp (best_keys p c hc)
  exact (gU_iff.mp hr).2.1
theorem van_der (p : PreOk g) {A : Nat} (h : (aGet g.van A).isSome = true) : DerW (gU g) [A] [] := by
  rw [keys_isSome] at h
  unfold Gram.van at h
  rw [List.map_map] at h
  have h : A ∈ List.map (fun x => x) _ := h
  rw [List.map_id', List.mem_filter, decide_eq_true_eq] at h
  obtain ⟨h1, h2⟩ := h
  obtain ⟨h3, h4⟩ := best_reached p A h1
  cases q : aGet g.lens A with
  | none => rw [q] at h4; cases h4
  | some x =>
    rw [q] at h2
    obtain ⟨w, hw, hl⟩ := ll_sound p.rok A x q
    have h2 : x = 0 := h2
    rw [h2] at hl
    rw [List.length_eq_zero_iff.mp hl] at hw
    exact der_gU p hw fun c hc => by
      have : c = A := by
        unfold namesIn at hc
        have := (List.mem_filter.mp hc).1
        simpa using this
      rw [this]; exact h3
theorem der_van (p : PreOk g) {r : Rule} (hr : r ∈ gU g) (hd : DerW (gU g) r.2 []) : (aGet g.van r.1).isSome = true := by
  obtain ⟨h1, h2, h3⟩ := gU_iff.mp hr
  have hn := (p.rok r h1).1
  have hd1 : DerW g.rules [r.1] [] := by
    have := DerW.name h1 hn (hd.mono fun r hr => gU_sub hr) .nil
    simpa using this
  obtain ⟨a1, a2⟩ := ll_least p.rok hd1
  have a2 : total g.lens [r.1] ≤ 0 := a2
  have hnm : namesIn [r.1] = [r.1] := nam_one hn
  have hb := p.best_all hd1 (fun c hc => by rw [hnm] at hc; rw [List.mem_singleton.mp hc]; exact h2) (by have : ([] : List Nat).length = 0 := rfl; omega)
  rw [keys_isSome]
  unfold Gram.van
  rw [List.map_map]
  show r.1 ∈ List.map (fun x => x) _
  rw [List.map_id', List.mem_filter, decide_eq_true_eq]
  refine ⟨keys_isSome.mp ?_, ?_⟩
  · unfold allIn at hb
    rw [hnm] at hb
    simpa using hb
  · rw [total_one hn] at a2; omega
theorem fwd_ok (h : g.Ok) (p : PreOk g) : TabOk g.fwd (gU g) (gS g) := by
  have hbu : ∀ {n r}, g.rules[n]? = some r → bodyAt g.fwd n = r.2 := fun {n r} hr => by
    show (g.pairs[n]?.map (·.2)).getD [] = _
    rw [g_pair_u hr]; rfl
  have hbs : bodyAt g.fwd g.rules.length = gS g := by
    show (g.pairs[g.rules.length]?.map (·.2)).getD [] = _
    rw [g_pair_s]; rfl
  have hpair : ∀ n ∈ g.numbers, ∃ q, g.pairs[n]? = some q := fun n hn => by
    rcases g_numbers.mp hn with ⟨r, hr, _⟩ | rfl
    · exact ⟨_, g_pair_u hr⟩
    · exact ⟨_, g_pair_s⟩
  have hnr : ∀ c ∈ namesIn (gS g), c ∈ reached g.rules g.root g.lens := fun c hc => by
    unfold gS namesIn at hc
    rw [List.filter_cons, if_neg (by decide), List.filter_cons, if_pos p.nroot, List.filter_cons, if_neg (by decide)] at hc
    rw [List.mem_singleton.mp hc]
    exact (reached_ok p.nroot).1
  have hal : allIn g.lens (gS g) = true := by
    unfold allIn gS namesIn
    rw [List.filter_cons, if_neg (by decide), List.filter_cons, if_pos p.nroot, List.filter_cons, if_neg (by decide)]
    simpa using p.ends
  refine ⟨hpair, fun s n => ?_, fun n hn A hA => ?_, fun r hr => ?_, ⟨g.rules.length, g_numbers.mpr (.inr rfl), hbs⟩, fun n hn => ?_, fun n hn => ?_, fun A hA => van_der p hA, fun r hr hd => der_van p hr hd⟩
  · show n ∈ (aGet (mkByName g.pairs g.numbers) s).getD [] ↔ n ∈ g.numbers ∧ g.pairs[n]?.map (·.1) = some s
    unfold mkByName
    rw [mkByName_get, aGet_nil]
    show n ∈ [] ++ _ ↔ _
    rw [List.nil_append, List.mem_filter, decide_eq_true_eq]
    constructor
    · rintro ⟨h1, h2⟩
      obtain ⟨q, hq⟩ := hpair n h1
      refine ⟨h1, ?_⟩
      unfold headAt at h2
      rw [hq] at h2 ⊢
      exact congrArg some h2
    · rintro ⟨h1, h2⟩
      refine ⟨h1, ?_⟩
      unfold headAt
      rw [h2]; rfl
  · rcases g_numbers.mp hn with ⟨r, hr, hu, _⟩ | rfl
    · have hA : g.pairs[n]?.map (·.1) = some [A] := hA
      rw [g_pair_u hr] at hA
      injection hA with hA
      injection hA with hA
      subst hA
      rw [hbu hr]
      exact ⟨(p.rok r (gU_sub hu)).1, hu⟩
    · have hA : g.pairs[g.rules.length]?.map (·.1) = some [A] := hA
      rw [g_pair_s] at hA
      injection hA with hA
      cases hA
  · obtain ⟨n, hn, e⟩ := gU_mem.mp hr
    exact ⟨n, g_numbers.mpr (.inl ⟨r, e, hr, hn⟩), g_pair_u e⟩
  · rcases g_numbers.mp hn with ⟨r, hr, hu, _⟩ | rfl
    · rw [hbu hr]
      obtain ⟨h1, h2, h3⟩ := gU_iff.mp hu
      exact prod_of p h3 (closed p h1 h2 h3)
    · rw [hbs]; exact prod_of p hal hnr
  · rcases g_numbers.mp hn with ⟨r, hr, hu, _⟩ | rfl
    · rw [hbu hr]
      obtain ⟨h1, h2, h3⟩ := gU_iff.mp hu
      obtain ⟨y, z, hyz⟩ := inRow p r.1 h2
      have hone : ∀ v, DerW (gU g) r.2 v → DerW (gU g) [r.1] v := fun v hv => by
        have := DerW.name hu (p.rok r h1).1 hv .nil
        rwa [List.append_nil] at this
      obtain ⟨w0, hw0⟩ := prod_of p h3 (closed p h1 h2 h3)
      have hz : ∀ c ∈ z, nam c = false := fun c hc => (hyz _ (hone _ hw0)).word c (List.mem_append_right _ hc)
      refine ⟨y, z, fun v hv => ?_, ⟨z, der_self hz⟩⟩
      obtain ⟨v1, v2, rfl, g1, g2⟩ := hv.split
      rw [der_only g2 hz, ← List.append_assoc]
      exact hyz _ (hone _ g1)
    · rw [hbs]
      exact ⟨[], [], fun v hv => by rw [List.append_nil] at hv; exact hv, ⟨[], .nil⟩⟩
end
end SF
/-! ### the law's own way: a row is read from place to place of the fragment, any characters ahead and behind -/
namespace SF
inductive Path (f : List Nat) : Nat → List Nat → Nat → Prop
  | nil {i} : i ≤ f.length → Path f i [] i
  | step {i c w j} : f[i]? = some c → Path f (i + 1) w j → Path f i (c :: w) j
  | ahead {c w j} : Path f 0 w j → Path f 0 (c :: w) j
  | behind {c w j} : Path f f.length w j → Path f f.length (c :: w) j
section
variable {f : List Nat}
theorem Path.le {i j : Nat} {w : List Nat} (h : Path f i w j) : i ≤ f.length ∧ j ≤ f.length := by
  induction h with
  | nil h => exact ⟨h, h⟩
  | step hc _ ih => exact ⟨by have := (List.getElem?_eq_some_iff.mp hc).1; omega, ih.2⟩
  | ahead _ ih => exact ⟨Nat.zero_le _, ih.2⟩
  | behind _ ih => exact ⟨Nat.le_refl _, ih.2⟩
theorem Path.app {i k : Nat} {w1 : List Nat} (h : Path f i w1 k) : ∀ {w2 : List Nat} {j : Nat}, Path f k w2 j → Path f i (w1 ++ w2) j := by
  induction h with
  | nil _ => intro w2 j h2; exact h2
  | step hc _ ih => intro w2 j h2; exact .step hc (ih h2)
  | ahead _ ih => intro w2 j h2; exact .ahead (ih h2)
  | behind _ ih => intro w2 j h2; exact .behind (ih h2)
theorem Path.split : ∀ {w1 w2 : List Nat} {i j : Nat}, Path f i (w1 ++ w2) j → ∃ k, Path f i w1 k ∧ Path f k w2 j
  | [], w2, i, j, h => ⟨i, .nil h.le.1, h⟩
  | c :: w1, w2, i, j, h => by
    have h : Path f i (c :: (w1 ++ w2)) j := h
    cases h with
    | step hc h => obtain ⟨k, h1, h2⟩ := Path.split h; exact ⟨k, .step hc h1, h2⟩
    | ahead h => obtain ⟨k, h1, h2⟩ := Path.split h; exact ⟨k, .ahead h1, h2⟩
    | behind h => obtain ⟨k, h1, h2⟩ := Path.split h; exact ⟨k, .behind h1, h2⟩
theorem path_fwd {i j : Nat} {w : List Nat} (h : Path f i w j) : j = f.length → (i = 0 → f <:+: w) ∧ (0 < i → f.drop i <+: w) := by
  induction h with
  | @nil i hi =>
    intro e
    subst e
    exact ⟨fun h0 => by rw [List.length_eq_zero_iff.mp h0]; exact List.infix_refl _, fun _ => by rw [List.drop_length]; exact List.prefix_refl _⟩
  | @step i c w j hc _ ih =>
    intro e
    obtain ⟨_, h2⟩ := ih e
    have hl := (List.getElem?_eq_some_iff.mp hc).1
    have hd : f.drop i = c :: f.drop (i + 1) := by
      rw [List.drop_eq_getElem_cons hl]
      congr 1
      have := List.getElem?_eq_getElem hl
      rw [hc] at this
      exact (Option.some.inj this).symm
    have hp : f.drop i <+: c :: w := by
      rw [hd]
      obtain ⟨r, hr⟩ := h2 (Nat.succ_pos _)
      exact ⟨r, by rw [← hr]; rfl⟩
    refine ⟨fun h0 => ?_, fun _ => hp⟩
    rw [h0, List.drop_zero] at hp
    exact hp.isInfix
  | @ahead c w j _ ih =>
    intro e
    obtain ⟨h1, _⟩ := ih e
    obtain ⟨u, v, hw⟩ := h1 rfl
    exact ⟨fun _ => ⟨c :: u, v, by rw [← hw]; rfl⟩, fun h => absurd h (Nat.lt_irrefl _)⟩
  | @behind c w j _ ih =>
    intro e
    refine ⟨fun h0 => ?_, fun _ => by rw [List.drop_length]; exact List.nil_prefix⟩
    rw [List.length_eq_zero_iff.mp h0]
    exact List.nil_infix
theorem path_iff {w : List Nat} : Path f 0 w f.length ↔ f <:+: w := by
  constructor
  · exact fun h => (path_fwd h rfl).1 rfl
  · rintro ⟨u, v, rfl⟩
    have h1 : ∀ u : List Nat, Path f 0 u 0 := by
      intro u
      induction u with
      | nil => exact .nil (Nat.zero_le _)
      | cons c u ih => exact .ahead ih
    have h3 : ∀ v : List Nat, Path f f.length v f.length := by
      intro v
      induction v with
      | nil => exact .nil (Nat.le_refl _)
      | cons c v ih => exact .behind ih
    have h2 : ∀ (r p : List Nat), f = p ++ r → Path f p.length r f.length := by
      intro r
      induction r with
      | nil => intro p e; rw [e, List.append_nil]; exact .nil (Nat.le_refl _)
      | cons c r ih =>
        intro p e
        refine .step (c := c) (by rw [e, List.getElem?_append_right (Nat.le_refl _), Nat.sub_self]; rfl) ?_
        have := ih (p ++ [c]) (by rw [e]; simp)
        rwa [List.length_append, List.length_singleton] at this
    exact ((h1 u).app (h2 f [] rfl)).app (h3 v)
end
/-- what a body reaches from a place -/
def Goes (U : List Rule) (f b : List Nat) (i j : Nat) : Prop := ∃ w, DerW U b w ∧ Path f i w j
theorem goes_row {U : List Rule} {S f : List Nat} : Goes U f S 0 f.length ↔ ∃ w, DerW U S w ∧ f <:+: w :=
  ⟨fun ⟨w, h, p⟩ => ⟨w, h, path_iff.mp p⟩, fun ⟨w, h, p⟩ => ⟨w, h, path_iff.mpr p⟩⟩
inductive Wlk (K : Nat → Nat → Nat → Prop) (f : List Nat) : List Nat → Nat → Nat → Prop
  | nil {i} : i ≤ f.length → Wlk K f [] i i
  | sign {c b i k j} : nam c = false → Path f i [c] k → Wlk K f b k j → Wlk K f (c :: b) i j
  | name {c b i k j} : nam c = true → K c i k → Wlk K f b k j → Wlk K f (c :: b) i j
theorem goes_wlk {U : List Rule} {f : List Nat} {K : Nat → Nat → Nat → Prop} (hK : ∀ r ∈ U, ∀ i j, Wlk K f r.2 i j → K r.1 i j) {b w : List Nat} (h : DerW U b w) : ∀ {i j : Nat}, Path f i w j → Wlk K f b i j := by
  induction h with
  | nil => intro i j p; cases p with | nil h => exact .nil h
  | @sign c b w hc _ ih =>
    intro i j p
    obtain ⟨k, p1, p2⟩ := Path.split (w1 := [c]) p
    exact .sign hc p1 (ih p2)
  | @name r b w1 w2 hr hn _ _ ih1 ih2 =>
    intro i j p
    obtain ⟨k, p1, p2⟩ := Path.split p
    exact .name hn (hK r hr i k (ih1 p1)) (ih2 p2)
theorem wlk_goes {U : List Rule} {f : List Nat} {K : Nat → Nat → Nat → Prop} (hK : ∀ c i j, K c i j → Goes U f [c] i j) {b : List Nat} {i j : Nat} (h : Wlk K f b i j) : Goes U f b i j := by
  induction h with
  | nil h => exact ⟨[], .nil, .nil h⟩
  | @sign c b i k j hc p _ ih =>
    obtain ⟨w, h1, h2⟩ := ih
    exact ⟨c :: w, .sign hc h1, p.app h2⟩
  | @name c b i k j hn hk _ ih =>
    obtain ⟨w, h1, h2⟩ := ih
    obtain ⟨w1, g1, g2⟩ := hK c i k hk
    exact ⟨w1 ++ w, DerW.app (a := [c]) g1 h1, g2.app h2⟩
end SF
/-! ### the table that reads backwards -/
namespace SF
def rv (U : List Rule) : List Rule := U.map fun r => (r.1, r.2.reverse)
theorem rv_mem {U : List Rule} {r : Rule} : r ∈ rv U ↔ (r.1, r.2.reverse) ∈ U := by
  unfold rv
  rw [List.mem_map]
  constructor
  · rintro ⟨q, hq, rfl⟩
    show (q.1, q.2.reverse.reverse) ∈ U
    rw [List.reverse_reverse]; exact hq
  · intro h
    exact ⟨_, h, by show (r.1, r.2.reverse.reverse) = r; rw [List.reverse_reverse]⟩
theorem rv_rv (U : List Rule) : rv (rv U) = U := by
  unfold rv
  rw [List.map_map]
  conv => rhs; rw [← List.map_id U]
  refine List.map_congr_left fun r _ => ?_
  show (r.1, r.2.reverse.reverse) = r
  rw [List.reverse_reverse]
theorem der_rv {U : List Rule} {b w : List Nat} (h : DerW U b w) : DerW (rv U) b.reverse w.reverse := by
  induction h with
  | nil => exact .nil
  | @sign c b w hc _ ih =>
    rw [List.reverse_cons, List.reverse_cons]
    exact ih.app (.sign hc .nil)
  | @name r b w1 w2 hr hn _ _ ih1 ih2 =>
    rw [List.reverse_cons, List.reverse_append]
    refine ih2.app ?_
    have := DerW.name (rules := rv U) (r := (r.1, r.2.reverse)) (b := []) (w2 := []) (rv_mem.mpr (by show (r.1, r.2.reverse.reverse) ∈ U; rw [List.reverse_reverse]; exact hr)) hn ih1 .nil
    rw [List.append_nil] at this
    exact this
theorem der_rv' {U : List Rule} {b w : List Nat} (h : DerW (rv U) b w) : DerW U b.reverse w.reverse := by
  have := der_rv h
  rwa [rv_rv] at this
def rvT (t : Tab) : Tab := ⟨t.pairs.map fun p => (p.1, p.2.reverse), t.numbers, t.vanishing, t.byName⟩
theorem rvT_pair {t : Tab} {n : Nat} : (rvT t).pairs[n]? = t.pairs[n]?.map fun p => (p.1, p.2.reverse) := List.getElem?_map ..
theorem rvT_head {t : Tab} {n : Nat} : (rvT t).pairs[n]?.map (·.1) = t.pairs[n]?.map (·.1) := by
  rw [rvT_pair]
  cases t.pairs[n]? <;> rfl
theorem rvT_body {t : Tab} {n : Nat} : bodyAt (rvT t) n = (bodyAt t n).reverse := by
  unfold bodyAt
  rw [rvT_pair]
  cases t.pairs[n]? <;> rfl
theorem rev_ok {t : Tab} {U : List Rule} {S : List Nat} (T : TabOk t U S) : TabOk (rvT t) (rv U) S.reverse := by
  refine ⟨fun n hn => ?_, fun s n => ?_, fun n hn A hA => ?_, fun r hr => ?_, ?_, fun n hn => ?_, fun n hn => ?_, fun A hA => ?_, fun r hr hd => ?_⟩
  · obtain ⟨q, hq⟩ := T.pair n hn
    exact ⟨_, by rw [rvT_pair, hq]; rfl⟩
  · rw [rvT_head]; exact T.named s n
  · rw [rvT_head] at hA
    obtain ⟨h1, h2⟩ := T.rule n hn A hA
    refine ⟨h1, rv_mem.mpr ?_⟩
    rw [rvT_body]
    show (A, (bodyAt t n).reverse.reverse) ∈ U
    rw [List.reverse_reverse]; exact h2
  · obtain ⟨n, hn, e⟩ := T.here _ (rv_mem.mp hr)
    refine ⟨n, hn, ?_⟩
    rw [rvT_pair, e]
    show some ([r.1], r.2.reverse.reverse) = _
    rw [List.reverse_reverse]
  · obtain ⟨n, hn, e⟩ := T.start
    exact ⟨n, hn, by rw [rvT_body, e]⟩
  · obtain ⟨w, hw⟩ := T.prod n hn
    exact ⟨_, by rw [rvT_body]; exact der_rv hw⟩
  · obtain ⟨y, β, h1, zb, h2⟩ := T.ctx n hn
    obtain ⟨w0, hw0⟩ := T.prod n hn
    have hy : ∀ c ∈ y, nam c = false := fun c hc => (h1 _ (hw0.app h2)).word c (List.mem_append_left _ hc)
    refine ⟨zb.reverse, y.reverse, fun z hz => ?_, y.reverse, der_self fun c hc => hy c (List.mem_reverse.mp hc)⟩
    rw [rvT_body] at hz
    obtain ⟨v, v2, rfl, d1, d2⟩ := hz.split
    have e2 := der_only d2 fun c hc => hy c (List.mem_reverse.mp hc)
    have d3 := der_rv' d1
    rw [List.reverse_reverse] at d3
    have := der_rv (h1 _ (d3.app h2))
    rw [List.reverse_append, List.reverse_append, List.reverse_reverse, List.append_assoc] at this
    rw [e2]; exact this
  · have := der_rv (T.van A hA)
    exact this
  · have h1 := rv_mem.mp hr
    have h2 := der_rv' hd
    exact T.van2 (r.1, r.2.reverse) h1 h2
theorem viab_rv {U : List Rule} {S f : List Nat} : (∃ w, DerW (rv U) S.reverse w ∧ f.reverse <:+: w) ↔ ∃ w, DerW U S w ∧ f <:+: w := by
  constructor
  · rintro ⟨w, h1, h2⟩
    have := der_rv' h1
    rw [List.reverse_reverse] at this
    exact ⟨_, this, by rw [← List.reverse_infix, List.reverse_reverse]; exact h2⟩
  · rintro ⟨w, h1, h2⟩
    exact ⟨_, der_rv h1, List.reverse_infix.mpr h2⟩
theorem bwd_rvT (g : Gram) : g.bwd = rvT g.fwd := by
  have hhead : ∀ n, headAt (g.pairs.map fun p => (p.1, p.2.reverse)) n = headAt g.pairs n := fun n => by
    unfold headAt
    rw [List.getElem?_map]
    cases g.pairs[n]? <;> rfl
  have hstep : bnStep (g.pairs.map fun p => (p.1, p.2.reverse)) = bnStep g.pairs := by
    funext m n
    unfold bnStep
    rw [hhead]
  show mkTab _ _ _ = rvT (mkTab _ _ _)
  unfold mkTab rvT mkByName
  rw [hstep]
end SF
namespace SF
open PySem PySem.Spec PyProof.Rows L2
/-! ### a mirror's outcome: a datum, an error, or nothing that is known -/
inductive Fv where
  | int (i : Int)
  | txt (l : List Nat)
def Fv.v : Fv → V
  | .int i => .int i
  | .txt l => .str (S l)
structure Ex where
  cls : Nat
  fs : List (Str × Fv)
def Ex.vs (e : Ex) : List (Str × V) := e.fs.map fun p => (p.1, p.2.v)
inductive M (α : Type) where
  | ok (a : α)
  | exc (e : Ex)
  | bad
namespace M
variable {α β γ σ : Type}
def bd : M α → (α → M β) → M β
  | .ok a, f => f a
  | .exc e, _ => .exc e
  | .bad, _ => .bad
def mp (m : M α) (f : α → β) : M β := m.bd fun x => .ok (f x)
def gd (p : Prop) [Decidable p] (m : M α) : M α := if p then m else .bad
def ite (m : M Bool) (a b : M α) : M α := m.bd fun c => if c = true then a else b
def of : Option α → M α
  | some x => .ok x
  | none => .bad
/-- nothing is let out -/
def nox : M α → M α
  | .exc _ => .bad
  | m => m
/-- a loop over data: next, break -/
def fr (body : σ → α → (σ → M β) → (σ → M β) → M β) (aft : σ → M β) : List α → σ → M β
  | [], s => aft s
  | x :: r, s => body s x (fr body aft r) aft
/-- a loop with fuel -/
def wh (body : σ → (σ → M β) → (σ → M β) → M β) (aft : σ → M β) : Nat → σ → M β
  | 0, _ => .bad
  | n + 1, s => body s (wh body aft n) aft
/-- a join: what follows two ways -/
def jn (rest : σ → M β) (body : (σ → M β) → M β) : M β := body rest
def lc (cond : α → M Bool) (elt : α → M β) : List α → M (List β)
  | [] => .ok []
  | x :: r => (cond x).nox.bd fun c => if c = true then (elt x).nox.bd fun y => (lc cond elt r).bd fun ys => .ok (y :: ys) else lc cond elt r
@[simp] theorem bd_ok (a : α) (f : α → M β) : (M.ok a).bd f = f a := rfl
@[simp] theorem bd_exc (e : Ex) (f : α → M β) : (M.exc e : M α).bd f = .exc e := rfl
@[simp] theorem bd_bad (f : α → M β) : (M.bad : M α).bd f = .bad := rfl
@[simp] theorem mp_ok (a : α) (f : α → β) : (M.ok a).mp f = .ok (f a) := rfl
theorem gd_pos {p : Prop} [Decidable p] {m : M α} (h : p) : gd p m = m := if_pos h
theorem gd_neg {p : Prop} [Decidable p] {m : M α} (h : ¬ p) : gd p m = .bad := if_neg h
@[simp] theorem ite_ok (c : Bool) (a b : M α) : (M.ite (.ok c) a b) = if c = true then a else b := rfl
@[simp] theorem of_some (x : α) : M.of (some x) = .ok x := rfl
@[simp] theorem of_none : M.of (none : Option α) = .bad := rfl
@[simp] theorem nox_ok (x : α) : (M.ok x).nox = .ok x := rfl
@[simp] theorem fr_nil (body : σ → α → (σ → M β) → (σ → M β) → M β) (aft : σ → M β) (s : σ) : fr body aft [] s = aft s := rfl
@[simp] theorem fr_cons (body : σ → α → (σ → M β) → (σ → M β) → M β) (aft : σ → M β) (x : α) (r : List α) (s : σ) : fr body aft (x :: r) s = body s x (fr body aft r) aft := rfl
theorem bd_assoc (m : M α) (f : α → M β) (g : β → M γ) : (m.bd f).bd g = m.bd fun x => (f x).bd g := by cases m <;> rfl
end M
/-! ### extended heaps: of what stands already only tuples may be frozen -/
def Nt : Option HO → Prop
  | none => False
  | some (.tup _) => False
  | _ => True
structure Xt (F H F' H' : Hp) : Prop where
  hh : Same H H'
  ff : Same F F'
  fh : Same F' H'
  nf : ∀ b, Nt (H b) → F b = none → F' b = none
theorem nt_some {o : Option HO} (h : Nt o) : ∃ u, o = some u := by
  cases o with
  | none => exact h.elim
  | some u => exact ⟨u, rfl⟩
theorem Ext.w {F H F' H' : Hp} (e : Ext F H F' H') : Xt F H F' H' := ⟨e.hh, e.ff, e.fh, fun b h f => e.nf b (fun z => by rw [z] at h; exact h) f⟩
namespace Xt
variable {F H F1 H1 F2 H2 : Hp} {p : Addr} {o : HO}
theorem refl (s : Same F H) : Xt F H F H := ⟨Same.refl _, Same.refl _, s, fun _ _ h => h⟩
theorem trans (a : Xt F H F1 H1) (b : Xt F1 H1 F2 H2) : Xt F H F2 H2 := ⟨a.hh.trans b.hh, a.ff.trans b.ff, b.fh, fun c hc hf => by
  refine b.nf c ?_ (a.nf c hc hf)
  obtain ⟨u, hu⟩ := nt_some hc
  rw [a.hh c u hu, ← hu]; exact hc⟩
theorem sF (e : Xt F H F1 H1) : Same F H1 := e.ff.trans e.fh
theorem free (e : Xt F H F1 H1) (hp : H1 p = none) : H p = none := e.hh.free hp
theorem freeF (e : Xt F H F1 H1) (hp : H1 p = none) : F1 p = none := e.fh.free hp
theorem newF (e : Xt F H F1 H1) (hp : H1 p = none) : Xt F H (upd F1 p o) (upd H1 p o) where
  hh := fun b u q => by rw [upd_ne (ne_of_none (e.hh b u q) hp)]; exact e.hh b u q
  ff := fun b u q => by rw [upd_ne (ne_of_none (e.fh b u (e.ff b u q)) hp)]; exact e.ff b u q
  fh := fun b u q => by
    by_cases hb : b = p
    · subst hb; rw [upd_same] at q ⊢; exact q
    · rw [upd_ne hb] at q ⊢; exact e.fh b u q
  nf := fun b hb hf => by
    have hbp : b ≠ p := by
      rintro rfl
      obtain ⟨u, hu⟩ := nt_some hb
      rw [e.hh b u hu] at hp; cases hp
    rw [upd_ne hbp]; exact e.nf b hb hf
theorem newM (e : Xt F H F1 H1) (hp : H1 p = none) : Xt F H F1 (upd H1 p o) where
  hh := fun b u q => by rw [upd_ne (ne_of_none (e.hh b u q) hp)]; exact e.hh b u q
  ff := e.ff
  fh := fun b u q => by rw [upd_ne (ne_of_none (e.fh b u q) hp)]; exact e.fh b u q
  nf := e.nf
theorem set (e : Xt F H F1 H1) (hp : H p = none) (hf : F1 p = none) : Xt F H F1 (upd H1 p o) where
  hh := fun b u q => by rw [upd_ne (ne_of_none q hp)]; exact e.hh b u q
  ff := e.ff
  fh := fun b u q => by rw [upd_ne (ne_of_none q hf)]; exact e.fh b u q
  nf := e.nf
theorem frz (e : Xt F H F1 H1) (hp : H p = none) (h1 : H1 p = some o) (hf : F1 p = none) : Xt F H (upd F1 p o) H1 where
  hh := e.hh
  ff := fun b u q => by rw [upd_ne (ne_of_none (e.ff b u q) hf)]; exact e.ff b u q
  fh := fun b u q => by
    by_cases hb : b = p
    · subst hb; rw [upd_same] at q; cases q; exact h1
    · rw [upd_ne hb] at q; exact e.fh b u q
  nf := fun b hb hfb => by
    have hbp : b ≠ p := by
      rintro rfl
      rw [hp] at hb; exact hb
    rw [upd_ne hbp]; exact e.nf b hb hfb
/-- a tuple that stands may always be frozen -/
theorem tup {xs : List V} (e : Xt F H F1 H1) (h1 : H1 p = some (.tup xs)) : Xt F H (upd F1 p (.tup xs)) H1 where
  hh := e.hh
  ff := fun b u q => by
    by_cases hb : b = p
    · subst hb
      rw [upd_same]
      have := e.sF b u q
      rw [h1] at this; exact this
    · rw [upd_ne hb]; exact e.ff b u q
  fh := fun b u q => by
    by_cases hb : b = p
    · subst hb; rw [upd_same] at q; cases q; exact h1
    · rw [upd_ne hb] at q; exact e.fh b u q
  nf := fun b hb hfb => by
    have hbp : b ≠ p := by
      rintro rfl
      obtain ⟨u, hu⟩ := nt_some hb
      have := e.hh b u hu
      rw [h1] at this
      cases this
      rw [hu] at hb; exact hb
    rw [upd_ne hbp]; exact e.nf b hb hfb
end Xt
/-- what may change: new since H0, not frozen, it stands as o -/
structure Own (H0 F H : Hp) (a : Addr) (o : HO) : Prop where
  new : H0 a = none
  nof : F a = none
  at_ : H a = some o
  mu : Nt (some o)
theorem Own.up {H0 F H F1 H1 : Hp} {a : Addr} {o : HO} (w : Own H0 F H a o) (e : Xt F H F1 H1) : Own H0 F1 H1 a o := ⟨w.new, e.nf a (by rw [w.at_]; exact w.mu) w.nof, e.hh _ _ w.at_, w.mu⟩
/-- a is changed to o, all else stays -/
structure Chg (a : Addr) (o : HO) (F H F1 H1 : Hp) : Prop where
  ff : Same F F1
  oth : ∀ b u, b ≠ a → H b = some u → H1 b = some u
  nf : ∀ b, Nt (H b) → F b = none → F1 b = none
  at_ : H1 a = some o
theorem Own.oth {H0 F H F1 H1 : Hp} {a b : Addr} {o u : HO} (w : Own H0 F H b u) (c : Chg a o F H F1 H1) (ne : b ≠ a) : Own H0 F1 H1 b u := ⟨w.new, c.nf b (by rw [w.at_]; exact w.mu) w.nof, c.oth _ _ ne w.at_, w.mu⟩
theorem Own.set {H0 F H F1 H1 : Hp} {a : Addr} {o u : HO} (w : Own H0 F H a u) (c : Chg a o F H F1 H1) (m : Nt (some o)) : Own H0 F1 H1 a o := ⟨w.new, c.nf a (by rw [w.at_]; exact w.mu) w.nof, c.at_, m⟩
theorem Own.chg {F0 H0 F H F1 H1 : Hp} {a : Addr} {u o : HO} (w : Own H0 F H a u) (e0 : Xt F0 H0 F H) (e : Xt F H F1 H1) : Xt F0 H0 F1 (upd H1 a o) ∧ Chg a o F H F1 (upd H1 a o) :=
  ⟨(e0.trans e).set w.new (w.up e).nof, e.ff, fun b v hb q => by rw [upd_ne hb]; exact e.hh _ _ q, e.nf, upd_same⟩
theorem Own.ne {H0 F H : Hp} {a p : Addr} {o : HO} (w : Own H0 F H a o) (hp : H p = none) : a ≠ p := ne_of_none w.at_ hp
/-! ### relations -/
abbrev R3 (α : Type) := Hp → Hp → Hp → V → α → Prop
def fz {α : Type} (r : Rl α) : R3 α := fun _ F _ v x => r F v x
def qS : Rl (List Nat) := fun _ v x => v = .str (S x) ∧ x.length ≤ sizeLine
def qN : Rl Unit := fun _ v _ => v = .non
def qX : Rl Unit := fun _ _ _ => True
def qL {α : Type} (r : Rl α) : Rl (List α) := fun F v xs => ∃ a vs, v = .ref a ∧ F a = some (.lst vs) ∧ Al r F vs xs ∧ xs.length ≤ sizeLine
def qT3 {α β γ : Type} (r : Rl α) (s : Rl β) (t : Rl γ) : Rl (α × β × γ) := fun F v x => ∃ a u w z, v = .ref a ∧ F a = some (.tup [u, w, z]) ∧ r F u x.1 ∧ s F w x.2.1 ∧ t F z x.2.2
def qT4 {α β γ δ : Type} (r : Rl α) (s : Rl β) (t : Rl γ) (q : Rl δ) : Rl (α × β × γ × δ) := fun F v x => ∃ a u w z y, v = .ref a ∧ F a = some (.tup [u, w, z, y]) ∧ r F u x.1 ∧ s F w x.2.1 ∧ t F z x.2.2.1 ∧ q F y x.2.2.2
section
variable {κ α : Type} [DecidableEq κ]
def qD (enc : κ → Key) (r : Rl α) : Rl (List (κ × α)) := fun F v m => ∃ a kvs, v = .ref a ∧ F a = some (.dK kvs) ∧ AD enc r F kvs m ∧ m.length ≤ sizeLine
def qDT (enc : κ → List Key) (r : Rl α) : Rl (List (κ × α)) := fun F v m => ∃ a kvs, v = .ref a ∧ F a = some (.dT kvs) ∧ AD enc r F kvs m ∧ m.length ≤ sizeLine
end
section
variable {α β γ δ : Type} {r : Rl α} {s : Rl β} {t : Rl γ} {q : Rl δ} [Mono r] [Mono s] [Mono t] [Mono q]
instance : Mono qS := ⟨fun _ h => h⟩
instance : Mono qN := ⟨fun _ h => h⟩
instance : Mono qX := ⟨fun _ h => h⟩
instance : Mono (qL r) := ⟨fun e h => by
  obtain ⟨a, vs, e1, h1, h2, h3⟩ := h
  exact ⟨a, vs, e1, e _ _ h1, h2.mono e, h3⟩⟩
instance : Mono (qT3 r s t) := ⟨fun e h => by
  obtain ⟨a, u, w, z, e1, h0, h1, h2, h3⟩ := h
  exact ⟨a, u, w, z, e1, e _ _ h0, Mono.mono e h1, Mono.mono e h2, Mono.mono e h3⟩⟩
instance : Mono (qT4 r s t q) := ⟨fun e h => by
  obtain ⟨a, u, w, z, y, e1, h0, h1, h2, h3, h4⟩ := h
  exact ⟨a, u, w, z, y, e1, e _ _ h0, Mono.mono e h1, Mono.mono e h2, Mono.mono e h3, Mono.mono e h4⟩⟩
end
section
variable {κ α : Type} [DecidableEq κ] {r : Rl α} [Mono r]
instance {enc : κ → Key} : Mono (qD enc r) := ⟨fun e h => by
  obtain ⟨a, kvs, e1, h1, h2, h3⟩ := h
  exact ⟨a, kvs, e1, e _ _ h1, h2.mono e, h3⟩⟩
instance {enc : κ → List Key} : Mono (qDT enc r) := ⟨fun e h => by
  obtain ⟨a, kvs, e1, h1, h2, h3⟩ := h
  exact ⟨a, kvs, e1, e _ _ h1, h2.mono e, h3⟩⟩
end
/-- a list that stands (it may change later) -/
def lb {α : Type} (r : Rl α) : R3 (List α) := fun _ F H v xs => ∃ a vs, v = .ref a ∧ H a = some (.lst vs) ∧ Al r F vs xs ∧ xs.length ≤ sizeLine
/-- a new list, not frozen -/
def nw {α : Type} (r : Rl α) : R3 (List α) := fun H0 F H v xs => ∃ a vs, v = .ref a ∧ H0 a = none ∧ F a = none ∧ H a = some (.lst vs) ∧ Al r F vs xs ∧ xs.length ≤ sizeLine
section
variable {κ α : Type} [DecidableEq κ]
def db (enc : κ → Key) (r : Rl α) : R3 (List (κ × α)) := fun _ F H v m => ∃ a kvs, v = .ref a ∧ H a = some (.dK kvs) ∧ AD enc r F kvs m ∧ m.length ≤ sizeLine
def dn (enc : κ → Key) (r : Rl α) : R3 (List (κ × α)) := fun H0 F H v m => ∃ a kvs, v = .ref a ∧ H0 a = none ∧ F a = none ∧ H a = some (.dK kvs) ∧ AD enc r F kvs m ∧ m.length ≤ sizeLine
def dbT (enc : κ → List Key) (r : Rl α) : R3 (List (κ × α)) := fun _ F H v m => ∃ a kvs, v = .ref a ∧ H a = some (.dT kvs) ∧ AD enc r F kvs m ∧ m.length ≤ sizeLine
def dnT (enc : κ → List Key) (r : Rl α) : R3 (List (κ × α)) := fun H0 F H v m => ∃ a kvs, v = .ref a ∧ H0 a = none ∧ F a = none ∧ H a = some (.dT kvs) ∧ AD enc r F kvs m ∧ m.length ≤ sizeLine
end
class Dn {ω α : Type} (R : Hp → Hp → Hp → ω → α → Prop) : Prop where
  dn : ∀ {H1 H2 F H : Hp} {v : ω} {x : α}, Same H1 H2 → R H2 F H v x → R H1 F H v x
instance {α : Type} {r : Rl α} : Dn (fz r) := ⟨fun _ h => h⟩
instance {α : Type} {r : Rl α} : Dn (lb r) := ⟨fun _ h => h⟩
instance {α : Type} {r : Rl α} : Dn (nw r) := ⟨fun s h => by
  obtain ⟨a, vs, e, h0, h⟩ := h
  exact ⟨a, vs, e, s.free h0, h⟩⟩
section
variable {κ α : Type} [DecidableEq κ] {enc : κ → Key} {encT : κ → List Key} {r : Rl α}
instance : Dn (db enc r) := ⟨fun _ h => h⟩
instance : Dn (dbT encT r) := ⟨fun _ h => h⟩
instance : Dn (dn enc r) := ⟨fun s h => by
  obtain ⟨a, vs, e, h0, h⟩ := h
  exact ⟨a, vs, e, s.free h0, h⟩⟩
instance : Dn (dnT encT r) := ⟨fun s h => by
  obtain ⟨a, vs, e, h0, h⟩ := h
  exact ⟨a, vs, e, s.free h0, h⟩⟩
end
/-! ### computations -/
def exD (e : Ex) (d : Option Addr) (H : Hp) : Prop := (∃ dx, d = some dx ∧ H dx = some (.xd e.vs)) ∨ (d = none ∧ e.fs = [])
/-- whether errors may leave, what is wanted of them, where their classes stand -/
structure Xw where
  on : Prop
  E : XK
  cl : Nat → Addr
def Out (w : Xw) (F H : Hp) (e : Ex) : Prop := w.on ∧ ∀ F2 H2 d, Xt F H F2 H2 → exD e d H2 → w.E (.ref (w.cl e.cls)) d H2
theorem Out.up {w : Xw} {F H F1 H1 : Hp} {e : Ex} (h : Out w F H e) (x : Xt F H F1 H1) : Out w F1 H1 e := ⟨h.1, fun F2 H2 d y => h.2 F2 H2 d (x.trans y)⟩
/-- what a def's end wants: the data that come out, the entry -/
structure Cxt (β : Type) where
  w : Xw
  Q : VK
  rr : R3 β
  F0 : Hp
  H0 : Hp
def Po {β : Type} (c : Cxt β) : M β → Prop
  | .ok y => ∀ v F' H', Xt c.F0 c.H0 F' H' → c.rr c.H0 F' H' v y → c.Q v H'
  | .exc e => Out c.w c.F0 c.H0 e
  | .bad => False
/-- here and now C computes m: what is wanted holds if it holds of every value that bears the datum -/
def EvN {ω α : Type} (w : Xw) (C : Hp → (ω → Hp → Prop) → Prop) (R : Hp → Hp → Hp → ω → α → Prop) (m : M α) (F H : Hp) : Prop :=
  match m with
    | .ok x => ∀ Q, (∀ v F2 H2, Xt F H F2 H2 → R H F2 H2 v x → Q v H2) → C H Q
    | .exc e => Out w F H e → ∀ Q, C H Q
    | .bad => True
/-- .. and at every extension -/
def EvC {ω α : Type} (w : Xw) (C : Hp → (ω → Hp → Prop) → Prop) (R : Hp → Hp → Hp → ω → α → Prop) (m : M α) (F H : Hp) : Prop := ∀ F1 H1, Xt F H F1 H1 → EvN w C R m F1 H1
section
variable {w : Xw} {ω ω' α β : Type} {C : Hp → (ω → Hp → Prop) → Prop} {R : Hp → Hp → Hp → ω → α → Prop} {m : M α} {F H F1 H1 : Hp}
theorem EvC.up (h : EvC w C R m F H) (e : Xt F H F1 H1) : EvC w C R m F1 H1 := fun F2 H2 e2 => h F2 H2 (e.trans e2)
theorem EvN.bind {D : ω → Hp → (ω' → Hp → Prop) → Prop} {R' : Hp → Hp → Hp → ω' → β → Prop} [Dn R'] {f : α → M β} (h1 : EvN w C R m F H)
    (k : ∀ x v F2 H2, Xt F H F2 H2 → R H F2 H2 v x → EvN w (D v) R' (f x) F2 H2) : EvN w (fun H Q => C H fun v H' => D v H' Q) R' (m.bd f) F H := by
  cases m with
  | bad => trivial
  | exc e => exact fun o Q => h1 o _
  | ok x =>
    have h2 := fun v F2 H2 e2 hr => k x v F2 H2 e2 hr
    show EvN w _ R' (f x) F H
    cases hf : f x with
    | bad => trivial
    | ok y =>
      rw [hf] at h2
      exact fun Q q => h1 _ fun v F2 H2 e2 hr => h2 v F2 H2 e2 hr Q fun w F3 H3 e3 hw => q w F3 H3 (e2.trans e3) (Dn.dn e2.hh hw)
    | exc e =>
      rw [hf] at h2
      exact fun o Q => h1 _ fun v F2 H2 e2 hr => h2 v F2 H2 e2 hr (o.up e2) Q
theorem EvC.bind {D : ω → Hp → (ω' → Hp → Prop) → Prop} {R' : Hp → Hp → Hp → ω' → β → Prop} [Dn R'] {f : α → M β} (h : EvC w C R m F H)
    (k : ∀ x v F1 H1 F2 H2, Xt F H F1 H1 → Xt F1 H1 F2 H2 → R H1 F2 H2 v x → EvN w (D v) R' (f x) F2 H2) : EvC w (fun H Q => C H fun v H' => D v H' Q) R' (m.bd f) F H :=
  fun F1 H1 e1 => EvN.bind (h F1 H1 e1) fun x v F2 H2 e2 hr => k x v F1 H1 F2 H2 e1 e2 hr
/-- a last step that lets out no error -/
theorem EvC.last {D : ω → Hp → (ω' → Hp → Prop) → Prop} {R' : Hp → Hp → Hp → ω' → β → Prop} [Dn R'] {f : α → M β} (h : EvC w C R m F H)
    (hf : ∀ x, (∃ y, f x = .ok y) ∨ f x = .bad)
    (k : ∀ x y v F1 H1 F2 H2, f x = .ok y → Xt F H F1 H1 → Xt F1 H1 F2 H2 → R H1 F2 H2 v x → ∀ Q, (∀ u F3 H3, Xt F2 H2 F3 H3 → R' H2 F3 H3 u y → Q u H3) → D v H2 Q) : EvC w (fun H Q => C H fun v H' => D v H' Q) R' (m.bd f) F H := by
  refine EvC.bind h fun x v F1 H1 F2 H2 e1 e2 hr => ?_
  rcases hf x with ⟨y, hy⟩ | hy
  · rw [hy]
    exact k x y v F1 H1 F2 H2 hy e1 e2 hr
  · rw [hy]; trivial
theorem EvC.run {β : Type} {c : Cxt β} {C : Hp → (ω → Hp → Prop) → Prop} {k : α → M β} {Q : ω → Hp → Prop} (ev : EvC c.w C R m F H) (e0 : Xt c.F0 c.H0 F H) (h : Po c (m.bd k))
    (go : ∀ x v F1 H1, Xt F H F1 H1 → R H F1 H1 v x → Po c (k x) → Q v H1) : C H Q := by
  have h1 := ev F H (Xt.refl e0.fh)
  cases m with
  | bad => exact h.elim
  | exc e => exact h1 (Out.up h e0) Q
  | ok x => exact h1 Q fun v F2 H2 e2 hr => go x v F2 H2 e2 hr h
end
end SF
/-! ### a test that is known -/
namespace SF
open PySem PySem.Spec PyProof.Rows L2
theorem be {α β : Type} {m : M α} {x : α} {f : α → M β} {y : M β} (h : m = .ok x) (k : f x = y) : m.bd f = y := by rw [h]; exact k
theorem iy {α : Type} {m : M Bool} {a b : M α} {y : M α} (h : m = .ok true) (k : a = y) : M.ite m a b = y := by rw [h]; exact k
theorem ino {α : Type} {m : M Bool} {a b : M α} {y : M α} (h : m = .ok false) (k : b = y) : M.ite m a b = y := by rw [h]; exact k
theorem fr_unit {α β : Type} {body : Unit → α → (Unit → M β) → (Unit → M β) → M β} {aft : Unit → M β} {y : M β} (P : α → Prop) (l : List α) (hl : ∀ x ∈ l, P x) (h : ∀ x (next brk : Unit → M β), P x → body () x next brk = next ()) (ha : aft () = y) : M.fr body aft l () = y := by
  induction l with
  | nil => exact ha
  | cons x r ih =>
    rw [M.fr_cons, h x _ _ (hl x List.mem_cons_self)]
    exact ih fun z hz => hl z (List.mem_cons_of_mem _ hz)
end SF
namespace SF
open PySem PySem.Spec PyProof.Rows L2
/-! ### relations that outlast what comes later; that do not look at the start -/
class Up {ω α : Type} (R : Hp → Hp → Hp → ω → α → Prop) : Prop where
  up : ∀ {H0 F H F1 H1 : Hp} {v : ω} {x : α}, Xt F H F1 H1 → R H0 F H v x → R H0 F1 H1 v x
class Fl {ω α : Type} (R : Hp → Hp → Hp → ω → α → Prop) : Prop where
  fl : ∀ {H0 H0' F H : Hp} {v : ω} {x : α}, R H0 F H v x → R H0' F H v x
instance {α : Type} {r : Rl α} [Mono r] : Up (fz r) := ⟨fun e h => Mono.mono (r := r) e.ff h⟩
instance {α : Type} {r : Rl α} [Mono r] : Up (lb r) := ⟨fun e h => by
  obtain ⟨a, vs, e1, h1, h2, h3⟩ := h
  exact ⟨a, vs, e1, e.hh _ _ h1, h2.mono e.ff, h3⟩⟩
instance {α : Type} {r : Rl α} [Mono r] : Up (nw r) := ⟨fun e h => by
  obtain ⟨a, vs, e1, h0, hf, h1, h2, h3⟩ := h
  exact ⟨a, vs, e1, h0, e.nf _ (by rw [h1]; trivial) hf, e.hh _ _ h1, h2.mono e.ff, h3⟩⟩
instance {α : Type} {r : Rl α} : Fl (fz r) := ⟨fun h => h⟩
instance {α : Type} {r : Rl α} : Fl (lb r) := ⟨fun h => h⟩
section
variable {κ α : Type} [DecidableEq κ] {enc : κ → Key} {encT : κ → List Key} {r : Rl α} [Mono r]
instance : Up (db enc r) := ⟨fun e h => by
  obtain ⟨a, vs, e1, h1, h2, h3⟩ := h
  exact ⟨a, vs, e1, e.hh _ _ h1, h2.mono e.ff, h3⟩⟩
instance : Up (dbT encT r) := ⟨fun e h => by
  obtain ⟨a, vs, e1, h1, h2, h3⟩ := h
  exact ⟨a, vs, e1, e.hh _ _ h1, h2.mono e.ff, h3⟩⟩
instance : Up (dn enc r) := ⟨fun e h => by
  obtain ⟨a, vs, e1, h0, hf, h1, h2, h3⟩ := h
  exact ⟨a, vs, e1, h0, e.nf _ (by rw [h1]; trivial) hf, e.hh _ _ h1, h2.mono e.ff, h3⟩⟩
instance : Up (dnT encT r) := ⟨fun e h => by
  obtain ⟨a, vs, e1, h0, hf, h1, h2, h3⟩ := h
  exact ⟨a, vs, e1, h0, e.nf _ (by rw [h1]; trivial) hf, e.hh _ _ h1, h2.mono e.ff, h3⟩⟩
omit [Mono r] in
instance : Fl (db enc r) := ⟨fun h => h⟩
omit [Mono r] in
instance : Fl (dbT encT r) := ⟨fun h => h⟩
end
def teq : Hp → Hp → Hp → Bool → Bool → Prop := fun _ _ _ b x => b = x
instance : Dn teq := ⟨fun _ h => h⟩
instance : Up teq := ⟨fun _ h => h⟩
instance : Fl teq := ⟨fun h => h⟩
theorem gd_or {α : Type} {p : Prop} [Decidable p] {x : α} : (∃ y, M.gd p (.ok x) = .ok y) ∨ M.gd p (.ok x : M α) = .bad := by
  unfold M.gd
  split
  · exact .inl ⟨_, rfl⟩
  · exact .inr rfl
theorem of_or {α : Type} {x : Option α} : (∃ y, M.of x = .ok y) ∨ M.of x = .bad := by
  cases x
  · exact .inr rfl
  · exact .inl ⟨_, rfl⟩
theorem gd_ok {α : Type} {p : Prop} [Decidable p] {x y : α} (h : M.gd p (.ok x) = .ok y) : p ∧ y = x := by
  unfold M.gd at h
  split at h
  · rename_i q
    cases h
    exact ⟨q, rfl⟩
  · cases h
theorem of_ok {α : Type} {x : Option α} {y : α} (h : M.of x = .ok y) : x = some y := by
  cases x
  · cases h
  · cases h; rfl
section
variable {w : Xw} {σ : L2.St} {F H : Hp} {K : PySem.W.Frag} {α β γ δ : Type}
/-! ### coercions -/
theorem e_mp {ω : Type} {C : Hp → (ω → Hp → Prop) → Prop} {R R' : Hp → Hp → Hp → ω → α → Prop} {m : M α} (h : EvC w C R m F H) (f : ∀ H0 F H v x, R H0 F H v x → R' H0 F H v x) : EvC w C R' m F H := by
  intro F1 H1 e1
  have h1 := h F1 H1 e1
  cases m with
  | bad => trivial
  | exc e => exact h1
  | ok x => exact fun Q q => h1 Q fun v F2 H2 e2 hr => q v F2 H2 e2 (f _ _ _ _ _ hr)
theorem e_cv {C : Hp → (V → Hp → Prop) → Prop} {r : Rl α} {r' : Rl β} {m : M α} {f : α → β} (h : EvC w C (fz r) m F H) (hf : ∀ F v x, r F v x → r' F v (f x)) : EvC w C (fz r') (m.bd fun x => .ok (f x)) F H := by
  intro F1 H1 e1
  have h1 := h F1 H1 e1
  cases m with
  | bad => trivial
  | exc e => exact h1
  | ok x => exact fun Q q => h1 Q fun v F2 H2 e2 hr => q v F2 H2 e2 (hf _ _ _ hr)
/-- .. where it may not go -/
theorem e_cvM {C : Hp → (V → Hp → Prop) → Prop} {r : Rl α} {r' : Rl β} {m : M α} {f : α → M β} (h : EvC w C (fz r) m F H) (ho : ∀ x, (∃ y, f x = .ok y) ∨ f x = .bad) (hf : ∀ F v x y, r F v x → f x = .ok y → r' F v y) : EvC w C (fz r') (m.bd f) F H := by
  intro F1 H1 e1
  have h1 := h F1 H1 e1
  cases m with
  | bad => trivial
  | exc e => exact h1
  | ok x =>
    show EvN w C _ (f x) F1 H1
    rcases ho x with ⟨y, hy⟩ | hy
    · rw [hy]
      exact fun Q q => h1 Q fun v F2 H2 e2 hr => q v F2 H2 e2 (hf _ _ _ _ hr hy)
    · rw [hy]; trivial
theorem e_ui {C : Hp → (V → Hp → Prop) → Prop} {m : M Nat} (h : EvC w C (fz rNat) m F H) : EvC w C (fz rI) (m.bd fun x => .ok (x : Int)) F H := e_cv h fun _ _ _ h => h
theorem e_iu {C : Hp → (V → Hp → Prop) → Prop} {m : M Int} (h : EvC w C (fz rI) m F H) : EvC w C (fz rNat) (m.bd fun x => M.gd (0 ≤ x) (.ok x.toNat)) F H := e_cvM h (fun _ => gd_or) fun _ v x y hr hy => by
  obtain ⟨h1, rfl⟩ := gd_ok hy
  show v = .int _
  rw [show v = .int x from hr, Int.toNat_of_nonneg h1]
theorem one_le : 1 ≤ sizeLine := by rw [sl64]; decide
theorem e_cs {C : Hp → (V → Hp → Prop) → Prop} {m : M Nat} (h : EvC w C (fz rC) m F H) : EvC w C (fz qS) (m.bd fun x => .ok [x]) F H := e_cv h fun _ _ _ h => ⟨h, one_le⟩
def toC : List Nat → Option Nat
  | [c] => some c
  | _ => none
theorem e_sc {C : Hp → (V → Hp → Prop) → Prop} {m : M (List Nat)} (h : EvC w C (fz qS) m F H) : EvC w C (fz rC) (m.bd fun x => M.of (toC x)) F H := e_cvM h (fun _ => of_or) fun _ v x y hr hy => by
  have := of_ok hy
  obtain ⟨rfl, _⟩ := hr
  match x, this with
  | [c], h => cases h; rfl
theorem e_some {C : Hp → (V → Hp → Prop) → Prop} {r : Rl α} {m : M α} (h : EvC w C (fz r) m F H) : EvC w C (fz (rO r)) (m.bd fun x => .ok (some x)) F H := e_cv h fun _ _ _ h => h
/-- a new list is frozen -/
theorem e_frz {C : Hp → (V → Hp → Prop) → Prop} {r : Rl α} [Mono r] {m : M (List α)} (h : EvC w C (nw r) m F H) : EvC w C (fz (qL r)) m F H := by
  intro F1 H1 e1
  have h1 := h F1 H1 e1
  cases m with
  | bad => trivial
  | exc e => exact h1
  | ok x => exact fun Q q => h1 Q fun v F2 H2 e2 ⟨a, vs, e, h0, hf, hh, al, hz⟩ => q v _ H2 (e2.frz h0 hh hf) ⟨a, vs, e, upd_same, al.mono (fun b u z => by rw [upd_ne (ne_of_none z hf)]; exact z), hz⟩
section
variable {κ : Type} [DecidableEq κ] {enc : κ → Key} {encT : κ → List Key} {r : Rl α} [Mono r]
theorem e_frzD {C : Hp → (V → Hp → Prop) → Prop} {m : M (List (κ × α))} (h : EvC w C (dn enc r) m F H) : EvC w C (fz (qD enc r)) m F H := by
  intro F1 H1 e1
  have h1 := h F1 H1 e1
  cases m with
  | bad => trivial
  | exc e => exact h1
  | ok x => exact fun Q q => h1 Q fun v F2 H2 e2 ⟨a, vs, e, h0, hf, hh, al, hz⟩ => q v _ H2 (e2.frz h0 hh hf) ⟨a, vs, e, upd_same, al.mono (fun b u z => by rw [upd_ne (ne_of_none z hf)]; exact z), hz⟩
theorem e_frzT {C : Hp → (V → Hp → Prop) → Prop} {m : M (List (κ × α))} (h : EvC w C (dnT encT r) m F H) : EvC w C (fz (qDT encT r)) m F H := by
  intro F1 H1 e1
  have h1 := h F1 H1 e1
  cases m with
  | bad => trivial
  | exc e => exact h1
  | ok x => exact fun Q q => h1 Q fun v F2 H2 e2 ⟨a, vs, e, h0, hf, hh, al, hz⟩ => q v _ H2 (e2.frz h0 hh hf) ⟨a, vs, e, upd_same, al.mono (fun b u z => by rw [upd_ne (ne_of_none z hf)]; exact z), hz⟩
end
/-- what is frozen stands; what is new stands -/
theorem e_lb {C : Hp → (V → Hp → Prop) → Prop} {r : Rl α} {m : M (List α)} (h : EvC w C (fz (qL r)) m F H) : EvC w C (lb r) m F H := by
  intro F1 H1 e1
  have h1 := h F1 H1 e1
  cases m with
  | bad => trivial
  | exc e => exact h1
  | ok x => exact fun Q q => h1 Q fun v F2 H2 e2 ⟨a, vs, e, hh, al, hz⟩ => q v _ H2 e2 ⟨a, vs, e, e2.fh _ _ hh, al, hz⟩
theorem e_nlb {C : Hp → (V → Hp → Prop) → Prop} {r : Rl α} {m : M (List α)} (h : EvC w C (nw r) m F H) : EvC w C (lb r) m F H := e_mp h fun _ _ _ _ _ ⟨a, vs, e, _, _, hh, al, hz⟩ => ⟨a, vs, e, hh, al, hz⟩
section
variable {κ : Type} [DecidableEq κ] {enc : κ → Key} {encT : κ → List Key} {r : Rl α}
theorem e_db {C : Hp → (V → Hp → Prop) → Prop} {m : M (List (κ × α))} (h : EvC w C (fz (qD enc r)) m F H) : EvC w C (db enc r) m F H := by
  intro F1 H1 e1
  have h1 := h F1 H1 e1
  cases m with
  | bad => trivial
  | exc e => exact h1
  | ok x => exact fun Q q => h1 Q fun v F2 H2 e2 ⟨a, vs, e, hh, al, hz⟩ => q v _ H2 e2 ⟨a, vs, e, e2.fh _ _ hh, al, hz⟩
theorem e_dbT {C : Hp → (V → Hp → Prop) → Prop} {m : M (List (κ × α))} (h : EvC w C (fz (qDT encT r)) m F H) : EvC w C (dbT encT r) m F H := by
  intro F1 H1 e1
  have h1 := h F1 H1 e1
  cases m with
  | bad => trivial
  | exc e => exact h1
  | ok x => exact fun Q q => h1 Q fun v F2 H2 e2 ⟨a, vs, e, hh, al, hz⟩ => q v _ H2 e2 ⟨a, vs, e, e2.fh _ _ hh, al, hz⟩
end
/-! ### names and constants -/
theorem e_var {r : Rl α} [Mono r] {i : Nat} {v : V} {x : α} (hr : r F v x) (h : σ[i]? = some (some v)) : EvC w (tVar i σ) (fz r) (.ok x) F H := fun F1 H1 e Q q => ⟨v, h, q v F1 H1 (Xt.refl e.fh) (Mono.mono (r := r) e.ff hr)⟩
theorem e_own {r : Rl α} [Mono r] {i : Nat} {a : Addr} {vs : List V} {xs : List α} {H0 : Hp} (o : Own H0 F H a (.lst vs)) (al : Al r F vs xs) (hz : xs.length ≤ sizeLine) (h : σ[i]? = some (some (.ref a))) : EvC w (tVar i σ) (lb r) (.ok xs) F H := fun F1 H1 e Q q =>
  ⟨_, h, q _ F1 H1 (Xt.refl e.fh) ⟨a, vs, rfl, e.hh _ _ o.at_, al.mono e.ff, hz⟩⟩
theorem e_bor {R : R3 α} [Up R] {i : Nat} {v : V} {x : α} (hr : ∀ H0, R H0 F H v x) (h : σ[i]? = some (some v)) : EvC w (tVar i σ) R (.ok x) F H := fun F1 H1 e Q q =>
  ⟨_, h, q _ F1 H1 (Xt.refl e.fh) (Up.up e (hr _))⟩
section
variable {κ : Type} [DecidableEq κ] {enc : κ → Key} {encT : κ → List Key} {r : Rl α} [Mono r]
theorem e_ownD {i : Nat} {a : Addr} {vs : List (Key × V)} {xs : List (κ × α)} {H0 : Hp} (o : Own H0 F H a (.dK vs)) (al : AD enc r F vs xs) (hz : xs.length ≤ sizeLine) (h : σ[i]? = some (some (.ref a))) : EvC w (tVar i σ) (db enc r) (.ok xs) F H := fun F1 H1 e Q q =>
  ⟨_, h, q _ F1 H1 (Xt.refl e.fh) ⟨a, vs, rfl, e.hh _ _ o.at_, al.mono e.ff, hz⟩⟩
theorem e_ownT {i : Nat} {a : Addr} {vs : List (List Key × V)} {xs : List (κ × α)} {H0 : Hp} (o : Own H0 F H a (.dT vs)) (al : AD encT r F vs xs) (hz : xs.length ≤ sizeLine) (h : σ[i]? = some (some (.ref a))) : EvC w (tVar i σ) (dbT encT r) (.ok xs) F H := fun F1 H1 e Q q =>
  ⟨_, h, q _ F1 H1 (Xt.refl e.fh) ⟨a, vs, rfl, e.hh _ _ o.at_, al.mono e.ff, hz⟩⟩
end
theorem e_c {r : Rl α} {v : V} {x : α} (hr : ∀ F, r F v x) : EvC w (tC v σ) (fz r) (.ok x) F H := fun F1 H1 e Q q => q v F1 H1 (Xt.refl e.fh) (hr _)
theorem e_str {z : Str} {x : List Nat} (h : z = S x) (hl : decide (x.length ≤ 1000) = true) : EvC w (tC (.str z) σ) (fz qS) (.ok x) F H := e_c fun F => ⟨by rw [h], by have := of_decide_eq_true hl; rw [sl64]; omega⟩
theorem e_chr {z : Str} {x : Nat} (h : z = S [x]) : EvC w (tC (.str z) σ) (fz rC) (.ok x) F H := e_c fun F => by rw [h]; rfl
/-! ### operators -/
section
variable {ta tb tc : TE} {m : M α} {n : M β}
theorem e_op {R1 : R3 α} {R2' : R3 β} {R' : R3 γ} [Up R1] [Fl R1] [Fl R2'] [Dn R'] {r : R2} {f : α → β → M γ} (ha : EvC w (ta σ) R1 m F H) (hb : EvC w (tb σ) R2' n F H) (hf : ∀ x y, (∃ z, f x y = .ok z) ∨ f x y = .bad)
    (op : ∀ {x : α} {y : β} {z : γ} {v u : V} {F2 H2 : Hp}, f x y = .ok z → R1 H2 F2 H2 v x → R2' H2 F2 H2 u y → Same F2 H2 → ∀ Q : V → Hp → Prop, (∀ u F3 H3, Xt F2 H2 F3 H3 → R' H2 F3 H3 u z → Q u H3) → r v u H2 Q) : EvC w (tOp r ta tb σ) R' (m.bd fun x => n.bd fun y => f x y) F H := by
  refine EvC.bind (D := fun v H Q => tb σ H fun y H2 => r v y H2 Q) ha fun x v F1 H1 F2 H2 e1 e2 hr => ?_
  refine EvC.last (D := fun u H Q => r v u H Q) (hb.up (e1.trans e2)) (hf x) (fun y z u F3 H3 F4 H4 hz e3 e4 hs Q q => ?_) F2 H2 (Xt.refl e2.fh)
  exact op hz (Fl.fl (Up.up (e3.trans e4) hr)) (Fl.fl hs) e4.fh Q q
theorem e_add {m n : M Int} (ha : EvC w (ta σ) (fz rI) m F H) (hb : EvC w (tb σ) (fz rI) n F H) : EvC w (tOp (rI0 fun i j => .int (i + j)) ta tb σ) (fz rI) (m.bd fun x => n.bd fun y => .ok (x + y)) F H :=
  e_op ha hb (fun _ _ => .inl ⟨_, rfl⟩) fun hz h1 h2 s Q q => by cases hz; exact ⟨_, _, h1, h2, q _ _ _ (Xt.refl s) rfl⟩
theorem e_sub {m n : M Int} (ha : EvC w (ta σ) (fz rI) m F H) (hb : EvC w (tb σ) (fz rI) n F H) : EvC w (tOp (rI0 fun i j => .int (i - j)) ta tb σ) (fz rI) (m.bd fun x => n.bd fun y => .ok (x - y)) F H :=
  e_op ha hb (fun _ _ => .inl ⟨_, rfl⟩) fun hz h1 h2 s Q q => by cases hz; exact ⟨_, _, h1, h2, q _ _ _ (Xt.refl s) rfl⟩
theorem e_addU {m n : M Nat} (ha : EvC w (ta σ) (fz rNat) m F H) (hb : EvC w (tb σ) (fz rNat) n F H) : EvC w (tOp (rI0 fun i j => .int (i + j)) ta tb σ) (fz rNat) (m.bd fun x => n.bd fun y => .ok (x + y)) F H :=
  e_op ha hb (fun _ _ => .inl ⟨_, rfl⟩) fun hz h1 h2 s Q q => by cases hz; exact ⟨_, _, h1, h2, q _ _ _ (Xt.refl s) rfl⟩
theorem e_subU {m n : M Nat} (ha : EvC w (ta σ) (fz rNat) m F H) (hb : EvC w (tb σ) (fz rNat) n F H) : EvC w (tOp (rI0 fun i j => .int (i - j)) ta tb σ) (fz rNat) (m.bd fun x => n.bd fun y => M.gd (y ≤ x) (.ok (x - y))) F H :=
  e_op ha hb (fun _ _ => gd_or) fun hz h1 h2 s Q q => by
    obtain ⟨hle, rfl⟩ := gd_ok hz
    exact ⟨_, _, h1, h2, q _ _ _ (Xt.refl s) (by show V.int _ = V.int _; congr 1; omega)⟩
/-- a factor within 2 ^ 64 -/
def mulOk (x y : Int) : Prop := (-(2 ^ 64) < x ∧ x < 2 ^ 64) ∨ (-(2 ^ 64) < y ∧ y < 2 ^ 64)
instance (x y : Int) : Decidable (mulOk x y) := by unfold mulOk; infer_instance
theorem e_mul {m n : M Int} (ha : EvC w (ta σ) (fz rI) m F H) (hb : EvC w (tb σ) (fz rI) n F H) : EvC w (tOp (L2.rI CMul fun i j => .int (i * j)) ta tb σ) (fz rI) (m.bd fun x => n.bd fun y => M.gd (mulOk x y) (.ok (x * y))) F H :=
  e_op ha hb (fun _ _ => gd_or) fun hz h1 h2 s Q q => by
    obtain ⟨hle, rfl⟩ := gd_ok hz
    exact ⟨_, _, h1, h2, hle, q _ _ _ (Xt.refl s) rfl⟩
theorem e_mulU {m n : M Nat} (ha : EvC w (ta σ) (fz rNat) m F H) (hb : EvC w (tb σ) (fz rNat) n F H) : EvC w (tOp (L2.rI CMul fun i j => .int (i * j)) ta tb σ) (fz rNat) (m.bd fun x => n.bd fun y => M.gd (mulOk x y) (.ok (x * y))) F H :=
  e_op ha hb (fun _ _ => gd_or) fun hz h1 h2 s Q q => by
    obtain ⟨hle, rfl⟩ := gd_ok hz
    exact ⟨_, _, h1, h2, hle, q _ _ _ (Xt.refl s) rfl⟩
theorem e_mod {m n : M Int} (ha : EvC w (ta σ) (fz rI) m F H) (hb : EvC w (tb σ) (fz rI) n F H) : EvC w (tOp (L2.rI (fun _ j => 0 < j) fun i j => .int (i % j)) ta tb σ) (fz rI) (m.bd fun x => n.bd fun y => M.gd (0 < y) (.ok (x % y))) F H :=
  e_op ha hb (fun _ _ => gd_or) fun hz h1 h2 s Q q => by
    obtain ⟨hle, rfl⟩ := gd_ok hz
    exact ⟨_, _, h1, h2, hle, q _ _ _ (Xt.refl s) rfl⟩
theorem e_modU {m n : M Nat} (ha : EvC w (ta σ) (fz rNat) m F H) (hb : EvC w (tb σ) (fz rNat) n F H) : EvC w (tOp (L2.rI (fun _ j => 0 < j) fun i j => .int (i % j)) ta tb σ) (fz rNat) (m.bd fun x => n.bd fun y => M.gd (0 < y) (.ok (x % y))) F H :=
  e_op ha hb (fun _ _ => gd_or) fun hz h1 h2 s Q q => by
    obtain ⟨hle, rfl⟩ := gd_ok hz
    exact ⟨_, _, h1, h2, by omega, q _ _ _ (Xt.refl s) rfl⟩
/-- an int by a positive number: the rest is a natural number -/
theorem e_modI {m : M Int} {n : M Nat} (ha : EvC w (ta σ) (fz rI) m F H) (hb : EvC w (tb σ) (fz rNat) n F H) : EvC w (tOp (L2.rI (fun _ j => 0 < j) fun i j => .int (i % j)) ta tb σ) (fz rNat) (m.bd fun x => n.bd fun y => M.gd (0 < y) (.ok (x % (y : Int)).toNat)) F H :=
  e_op ha hb (fun _ _ => gd_or) fun {x y z v u F2 H2} hz h1 h2 s Q q => by
    obtain ⟨hle, rfl⟩ := gd_ok hz
    exact ⟨_, _, h1, h2, by omega, q _ _ _ (Xt.refl s) (by show V.int _ = V.int _; congr 1; have := Int.emod_nonneg x (b := (y : Int)) (by omega); omega)⟩
theorem e_fdiv {m n : M Int} (ha : EvC w (ta σ) (fz rI) m F H) (hb : EvC w (tb σ) (fz rI) n F H) : EvC w (tOp (L2.rI CDiv fun i j => .int (i / j)) ta tb σ) (fz rI) (m.bd fun x => n.bd fun y => M.gd (0 < y ∧ y < 1073741824) (.ok (x / y))) F H :=
  e_op ha hb (fun _ _ => gd_or) fun hz h1 h2 s Q q => by
    obtain ⟨hle, rfl⟩ := gd_ok hz
    exact ⟨_, _, h1, h2, hle, q _ _ _ (Xt.refl s) rfl⟩
theorem e_fdivU {m n : M Nat} (ha : EvC w (ta σ) (fz rNat) m F H) (hb : EvC w (tb σ) (fz rNat) n F H) : EvC w (tOp (L2.rI CDiv fun i j => .int (i / j)) ta tb σ) (fz rNat) (m.bd fun x => n.bd fun y => M.gd (0 < y ∧ y < 1073741824) (.ok (x / y))) F H :=
  e_op ha hb (fun _ _ => gd_or) fun hz h1 h2 s Q q => by
    obtain ⟨hle, rfl⟩ := gd_ok hz
    exact ⟨_, _, h1, h2, ⟨by omega, by omega⟩, q _ _ _ (Xt.refl s) rfl⟩
theorem e_neg {m : M Int} (ha : EvC w (ta σ) (fz rI) m F H) : EvC w (tUn (rU fun i => .int (-i)) ta σ) (fz rI) (m.bd fun x => .ok (-x)) F H :=
  EvC.last (D := fun v H Q => rU (fun i => .int (-i)) v H Q) ha (fun _ => .inl ⟨_, rfl⟩) fun x y v F1 H1 F2 H2 hz e1 e2 hr Q q => by cases hz; exact ⟨_, hr, q _ _ _ (Xt.refl e2.fh) rfl⟩
/-- what is put together, if it is not too long -/
def _root_.SF.M.cat {α : Type} (a b : List α) : M (List α) := M.gd (a.length + b.length ≤ sizeLine) (.ok (a ++ b))
theorem e_catS {m n : M (List Nat)} (ha : EvC w (ta σ) (fz qS) m F H) (hb : EvC w (tb σ) (fz qS) n F H) :
    EvC w (tOp (fun x y H Q => ∃ i j, x = .str i ∧ y = .str j ∧ i.length + j.length ≤ sizeLine ∧ Q (.str (i ++ j)) H) ta tb σ) (fz qS) (m.bd fun x => n.bd fun y => M.cat x y) F H :=
  e_op ha hb (fun _ _ => gd_or) fun hz h1 h2 s Q q => by
    obtain ⟨hle, rfl⟩ := gd_ok hz
    obtain ⟨rfl, _⟩ := h1
    obtain ⟨rfl, _⟩ := h2
    exact ⟨_, _, rfl, rfl, by rw [S_len, S_len]; exact hle, q _ _ _ (Xt.refl s) ⟨by rw [S_app], by rw [List.length_append]; exact hle⟩⟩
/-- a new list -/
theorem nw_new {r : Rl α} [Mono r] {F H : Hp} {p : Addr} {vs : List V} {xs : List α} (s : Same F H) (hp : H p = none) (al : Al r F vs xs) (hz : xs.length ≤ sizeLine) : Xt F H F (upd H p (.lst vs)) ∧ nw r H F (upd H p (.lst vs)) (.ref p) xs :=
  ⟨(Xt.refl s).newM hp, p, vs, rfl, hp, s.free hp, upd_same, al, hz⟩
theorem e_catL {r : Rl α} [Mono r] {m n : M (List α)} (ha : EvC w (ta σ) (lb r) m F H) (hb : EvC w (tb σ) (lb r) n F H) : EvC w (tOp rCat ta tb σ) (nw r) (m.bd fun x => n.bd fun y => M.cat x y) F H :=
  e_op ha hb (fun _ _ => gd_or) fun hz h1 h2 s Q q => by
    obtain ⟨hle, rfl⟩ := gd_ok hz
    obtain ⟨a, vs, rfl, e1, al1, _⟩ := h1
    obtain ⟨b, us, rfl, e2, al2, _⟩ := h2
    refine ⟨a, b, vs, us, rfl, rfl, e1, e2, by rw [al1.len, al2.len]; exact hle, fun p hp => ?_⟩
    obtain ⟨x1, x2⟩ := nw_new s hp (al1.app al2) (by rw [List.length_append]; exact hle)
    exact q _ _ _ x1 x2
/-! comparisons of numbers -/
section
variable {m n : M Int}
theorem e_lt (ha : EvC w (ta σ) (fz rI) m F H) (hb : EvC w (tb σ) (fz rI) n F H) : EvC w (tOp (rI0 fun i j => .bl (decide (i < j))) ta tb σ) (fz rB) (m.bd fun x => n.bd fun y => .ok (decide (x < y))) F H :=
  e_op ha hb (fun _ _ => .inl ⟨_, rfl⟩) fun hz h1 h2 s Q q => by cases hz; exact ⟨_, _, h1, h2, q _ _ _ (Xt.refl s) rfl⟩
theorem e_le (ha : EvC w (ta σ) (fz rI) m F H) (hb : EvC w (tb σ) (fz rI) n F H) : EvC w (tOp (rI0 fun i j => .bl (decide (i ≤ j))) ta tb σ) (fz rB) (m.bd fun x => n.bd fun y => .ok (decide (x ≤ y))) F H :=
  e_op ha hb (fun _ _ => .inl ⟨_, rfl⟩) fun hz h1 h2 s Q q => by cases hz; exact ⟨_, _, h1, h2, q _ _ _ (Xt.refl s) rfl⟩
theorem e_gt (ha : EvC w (ta σ) (fz rI) m F H) (hb : EvC w (tb σ) (fz rI) n F H) : EvC w (tOp (rI0 fun i j => .bl (decide (j < i))) ta tb σ) (fz rB) (m.bd fun x => n.bd fun y => .ok (decide (y < x))) F H :=
  e_op ha hb (fun _ _ => .inl ⟨_, rfl⟩) fun hz h1 h2 s Q q => by cases hz; exact ⟨_, _, h1, h2, q _ _ _ (Xt.refl s) rfl⟩
theorem e_ge (ha : EvC w (ta σ) (fz rI) m F H) (hb : EvC w (tb σ) (fz rI) n F H) : EvC w (tOp (rI0 fun i j => .bl (decide (j ≤ i))) ta tb σ) (fz rB) (m.bd fun x => n.bd fun y => .ok (decide (y ≤ x))) F H :=
  e_op ha hb (fun _ _ => .inl ⟨_, rfl⟩) fun hz h1 h2 s Q q => by cases hz; exact ⟨_, _, h1, h2, q _ _ _ (Xt.refl s) rfl⟩
end
section
variable {m n : M Nat}
theorem dec_lt (x y : Nat) : decide ((x : Int) < (y : Int)) = decide (x < y) := by simp
theorem dec_le (x y : Nat) : decide ((x : Int) ≤ (y : Int)) = decide (x ≤ y) := by simp
theorem e_ltU (ha : EvC w (ta σ) (fz rNat) m F H) (hb : EvC w (tb σ) (fz rNat) n F H) : EvC w (tOp (rI0 fun i j => .bl (decide (i < j))) ta tb σ) (fz rB) (m.bd fun x => n.bd fun y => .ok (decide (x < y))) F H :=
  e_op ha hb (fun _ _ => .inl ⟨_, rfl⟩) fun hz h1 h2 s Q q => by cases hz; exact ⟨_, _, h1, h2, q _ _ _ (Xt.refl s) (congrArg V.bl (dec_lt _ _))⟩
theorem e_leU (ha : EvC w (ta σ) (fz rNat) m F H) (hb : EvC w (tb σ) (fz rNat) n F H) : EvC w (tOp (rI0 fun i j => .bl (decide (i ≤ j))) ta tb σ) (fz rB) (m.bd fun x => n.bd fun y => .ok (decide (x ≤ y))) F H :=
  e_op ha hb (fun _ _ => .inl ⟨_, rfl⟩) fun hz h1 h2 s Q q => by cases hz; exact ⟨_, _, h1, h2, q _ _ _ (Xt.refl s) (congrArg V.bl (dec_le _ _))⟩
theorem e_gtU (ha : EvC w (ta σ) (fz rNat) m F H) (hb : EvC w (tb σ) (fz rNat) n F H) : EvC w (tOp (rI0 fun i j => .bl (decide (j < i))) ta tb σ) (fz rB) (m.bd fun x => n.bd fun y => .ok (decide (y < x))) F H :=
  e_op ha hb (fun _ _ => .inl ⟨_, rfl⟩) fun hz h1 h2 s Q q => by cases hz; exact ⟨_, _, h1, h2, q _ _ _ (Xt.refl s) (congrArg V.bl (dec_lt _ _))⟩
theorem e_geU (ha : EvC w (ta σ) (fz rNat) m F H) (hb : EvC w (tb σ) (fz rNat) n F H) : EvC w (tOp (rI0 fun i j => .bl (decide (j ≤ i))) ta tb σ) (fz rB) (m.bd fun x => n.bd fun y => .ok (decide (y ≤ x))) F H :=
  e_op ha hb (fun _ _ => .inl ⟨_, rfl⟩) fun hz h1 h2 s Q q => by cases hz; exact ⟨_, _, h1, h2, q _ _ _ (Xt.refl s) (congrArg V.bl (dec_le _ _))⟩
end
/-! == of plain data -/
/-- values of data that == decides by value -/
class Scl {α : Type} [DecidableEq α] (r : Rl α) : Prop where
  scl : ∀ {F v u} {x y : α}, r F v x → r F u y → scal v u = true ∧ (v = u ↔ x = y)
instance : Scl rI := ⟨fun h1 h2 => by cases h1; cases h2; exact ⟨rfl, by simp⟩⟩
instance : Scl rNat := ⟨fun h1 h2 => by cases h1; cases h2; exact ⟨rfl, fun h => by injection h with h; omega, fun h => by rw [h]⟩⟩
instance : Scl rB := ⟨fun h1 h2 => by cases h1; cases h2; exact ⟨rfl, by simp⟩⟩
instance : Scl qS := ⟨fun h1 h2 => by obtain ⟨rfl, _⟩ := h1; obtain ⟨rfl, _⟩ := h2; exact ⟨rfl, by simp only [V.str.injEq, S_inj]⟩⟩
instance : Scl rC := ⟨fun h1 h2 => by cases h1; cases h2; exact ⟨rfl, by simp only [V.str.injEq, S_inj, List.cons.injEq, and_true]⟩⟩
theorem e_eq [DecidableEq α] {r : Rl α} [Mono r] [Scl r] {m n : M α} (ha : EvC w (ta σ) (fz r) m F H) (hb : EvC w (tb σ) (fz r) n F H) : EvC w (tOp rEq ta tb σ) (fz rB) (m.bd fun x => n.bd fun y => .ok (decide (x = y))) F H :=
  e_op ha hb (fun _ _ => .inl ⟨_, rfl⟩) fun hz h1 h2 s Q q => by
    cases hz
    obtain ⟨q1, q2⟩ := Scl.scl (r := r) h1 h2
    exact ⟨q1, q _ _ _ (Xt.refl s) (by rw [decide_eq_decide.mpr q2]; rfl)⟩
theorem e_ne [DecidableEq α] {r : Rl α} [Mono r] [Scl r] {m n : M α} (ha : EvC w (ta σ) (fz r) m F H) (hb : EvC w (tb σ) (fz r) n F H) : EvC w (tOp rNe ta tb σ) (fz rB) (m.bd fun x => n.bd fun y => .ok (!decide (x = y))) F H :=
  e_op ha hb (fun _ _ => .inl ⟨_, rfl⟩) fun hz h1 h2 s Q q => by
    cases hz
    obtain ⟨q1, q2⟩ := Scl.scl (r := r) h1 h2
    exact ⟨q1, q _ _ _ (Xt.refl s) (by rw [decide_eq_decide.mpr q2]; rfl)⟩
end
end
end SF
namespace SF
open PySem PySem.Spec PyProof.Rows L2
section
variable {w : Xw} {σ : L2.St} {F H : Hp} {K : PySem.W.Frag} {α β γ δ : Type} {ta tb tc : TE}
/-! ### truth -/
theorem EvC.eq {ω : Type} {C D : Hp → (ω → Hp → Prop) → Prop} {R : Hp → Hp → Hp → ω → α → Prop} {m n : M α} (h : EvC w C R m F H) (e : m = n) : EvC w C R n F H := e ▸ h
theorem e_not {m : M Bool} (ha : EvC w (ta σ) (fz rB) m F H) : EvC w (tNotV ta σ) (fz rB) (m.bd fun x => .ok (!x)) F H :=
  EvC.last (D := fun (v : V) H (Q : VK) => ∃ c, v = .bl c ∧ Q (.bl (!c)) H) (R' := fz rB) ha (fun _ => .inl ⟨_, rfl⟩) fun x y v F1 H1 F2 H2 hz e1 e2 hr Q q => by cases hz; exact ⟨_, hr, q _ _ _ (Xt.refl e2.fh) rfl⟩
theorem e_and {m n : M Bool} (ha : EvC w (ta σ) (fz rB) m F H) (hb : EvC w (tb σ) (fz rB) n F H) : EvC w (tAndV ta tb σ) (fz rB) (M.ite m n (.ok false)) F H :=
  EvC.bind (D := fun (v : V) H (Q : VK) => ∃ c, v = .bl c ∧ if c = true then tb σ H Q else Q (.bl false) H) (R' := fz rB) (f := fun c => if c = true then n else .ok false) ha fun x v F1 H1 F2 H2 e1 e2 hr => by
    have h1 := hb F2 H2 (e1.trans e2)
    have hr : v = .bl x := hr
    subst hr
    cases x with
    | false => exact fun Q q => ⟨_, rfl, iteF (q _ _ _ (Xt.refl e2.fh) rfl)⟩
    | true =>
      show EvN w _ _ n F2 H2
      cases n with
      | bad => trivial
      | exc e => exact fun o Q => ⟨_, rfl, iteT (h1 o Q)⟩
      | ok y => exact fun Q q => ⟨_, rfl, iteT (h1 Q q)⟩
theorem e_or {m n : M Bool} (ha : EvC w (ta σ) (fz rB) m F H) (hb : EvC w (tb σ) (fz rB) n F H) : EvC w (tOrV ta tb σ) (fz rB) (M.ite m (.ok true) n) F H :=
  EvC.bind (D := fun (v : V) H (Q : VK) => ∃ c, v = .bl c ∧ if c = true then Q (.bl true) H else tb σ H Q) (R' := fz rB) (f := fun c => if c = true then .ok true else n) ha fun x v F1 H1 F2 H2 e1 e2 hr => by
    have h1 := hb F2 H2 (e1.trans e2)
    have hr : v = .bl x := hr
    subst hr
    cases x with
    | true => exact fun Q q => ⟨_, rfl, iteT (q _ _ _ (Xt.refl e2.fh) rfl)⟩
    | false =>
      show EvN w _ _ n F2 H2
      cases n with
      | bad => trivial
      | exc e => exact fun o Q => ⟨_, rfl, iteF (h1 o Q)⟩
      | ok y => exact fun Q q => ⟨_, rfl, iteF (h1 Q q)⟩
theorem e_andP {x y : Bool} (ha : EvC w (ta σ) (fz rB) (.ok x) F H) (hb : EvC w (tb σ) (fz rB) (.ok y) F H) : EvC w (tAndV ta tb σ) (fz rB) (.ok (x && y)) F H := by
  have h := e_and ha hb
  have e : M.ite (.ok x) (.ok y) (.ok false) = .ok (x && y) := by cases x <;> rfl
  rw [e] at h; exact h
theorem e_orP {x y : Bool} (ha : EvC w (ta σ) (fz rB) (.ok x) F H) (hb : EvC w (tb σ) (fz rB) (.ok y) F H) : EvC w (tOrV ta tb σ) (fz rB) (.ok (x || y)) F H := by
  have h := e_or ha hb
  have e : M.ite (.ok x) (.ok true) (.ok y) = .ok (x || y) := by cases x <;> rfl
  rw [e] at h; exact h
theorem t_val {m : M Bool} (ha : EvC w (ta σ) (fz rB) m F H) : EvC w (tB ta σ) teq m F H := by
  intro F1 H1 e1
  have h1 := ha F1 H1 e1
  cases m with
  | bad => trivial
  | exc e => exact fun o Q => h1 o _
  | ok x => exact fun Q q => h1 _ fun v F2 H2 e2 hr => ⟨x, hr, q _ _ _ e2 rfl⟩
theorem t_test {m : M Bool} (ha : EvC w (ta σ) (fz rB) m F H) : EvC w (tTest ta σ) teq m F H := t_val ha
section
variable {tA tB' : TT}
theorem t_not {m : M Bool} (ha : EvC w (tA σ) teq m F H) : EvC w (tNot tA σ) teq (m.bd fun x => .ok (!x)) F H :=
  EvC.last (D := fun (c : Bool) H (Q : Bool → Hp → Prop) => Q (!c) H) (R' := teq) ha (fun _ => .inl ⟨_, rfl⟩) fun x y v F1 H1 F2 H2 hz e1 e2 hr Q q => by cases hz; exact q _ _ _ (Xt.refl e2.fh) (congrArg not hr)
theorem t_and {m n : M Bool} (ha : EvC w (tA σ) teq m F H) (hb : EvC w (tB' σ) teq n F H) : EvC w (tAnd tA tB' σ) teq (M.ite m n (.ok false)) F H :=
  EvC.bind (D := fun (c : Bool) H (Q : Bool → Hp → Prop) => if c = true then tB' σ H Q else Q false H) (R' := teq) (f := fun c => if c = true then n else .ok false) ha fun x v F1 H1 F2 H2 e1 e2 hr => by
    have h1 := hb F2 H2 (e1.trans e2)
    have hr : v = x := hr
    subst hr
    cases v with
    | false => exact fun Q q => iteF (q _ _ _ (Xt.refl e2.fh) rfl)
    | true =>
      show EvN w _ _ n F2 H2
      cases n with
      | bad => trivial
      | exc e => exact fun o Q => iteT (h1 o Q)
      | ok y => exact fun Q q => iteT (h1 Q q)
theorem t_or {m n : M Bool} (ha : EvC w (tA σ) teq m F H) (hb : EvC w (tB' σ) teq n F H) : EvC w (tOr tA tB' σ) teq (M.ite m (.ok true) n) F H :=
  EvC.bind (D := fun (c : Bool) H (Q : Bool → Hp → Prop) => if c = true then Q true H else tB' σ H Q) (R' := teq) (f := fun c => if c = true then .ok true else n) ha fun x v F1 H1 F2 H2 e1 e2 hr => by
    have h1 := hb F2 H2 (e1.trans e2)
    have hr : v = x := hr
    subst hr
    cases v with
    | true => exact fun Q q => iteT (q _ _ _ (Xt.refl e2.fh) rfl)
    | false =>
      show EvN w _ _ n F2 H2
      cases n with
      | bad => trivial
      | exc e => exact fun o Q => iteF (h1 o Q)
      | ok y => exact fun Q q => iteF (h1 Q q)
theorem t_andP {x y : Bool} (ha : EvC w (tA σ) teq (.ok x) F H) (hb : EvC w (tB' σ) teq (.ok y) F H) : EvC w (tAnd tA tB' σ) teq (.ok (x && y)) F H := by
  have h := t_and ha hb
  have e : M.ite (.ok x) (.ok y) (.ok false) = .ok (x && y) := by cases x <;> rfl
  rw [e] at h; exact h
theorem t_orP {x y : Bool} (ha : EvC w (tA σ) teq (.ok x) F H) (hb : EvC w (tB' σ) teq (.ok y) F H) : EvC w (tOr tA tB' σ) teq (.ok (x || y)) F H := by
  have h := t_or ha hb
  have e : M.ite (.ok x) (.ok true) (.ok y) = .ok (x || y) := by cases x <;> rfl
  rw [e] at h; exact h
theorem e_if {R : R3 α} [Dn R] {c : M Bool} {m n : M α} (hc : EvC w (tA σ) teq c F H) (ha : EvC w (ta σ) R m F H) (hb : EvC w (tb σ) R n F H) : EvC w (tIf tA ta tb σ) R (M.ite c m n) F H :=
  EvC.bind (D := fun (c : Bool) H (Q : VK) => if c = true then ta σ H Q else tb σ H Q) (R' := R) (f := fun c => if c = true then m else n) hc fun x v F1 H1 F2 H2 e1 e2 hr => by
    have h1 := ha F2 H2 (e1.trans e2)
    have h2 := hb F2 H2 (e1.trans e2)
    have hr : v = x := hr
    subst hr
    cases v with
    | true =>
      show EvN w _ _ m F2 H2
      cases m with
      | bad => trivial
      | exc e => exact fun o Q => iteT (h1 o Q)
      | ok y => exact fun Q q => iteT (h1 Q q)
    | false =>
      show EvN w _ _ n F2 H2
      cases n with
      | bad => trivial
      | exc e => exact fun o Q => iteF (h2 o Q)
      | ok y => exact fun Q q => iteF (h2 Q q)
theorem e_ifP {R : R3 α} [Dn R] {c : Bool} {x y : α} (hc : EvC w (tA σ) teq (.ok c) F H) (ha : EvC w (ta σ) R (.ok x) F H) (hb : EvC w (tb σ) R (.ok y) F H) : EvC w (tIf tA ta tb σ) R (.ok (if c = true then x else y)) F H := by
  have h := e_if hc ha hb
  have e : M.ite (.ok c) (.ok x) (.ok y) = .ok (if c = true then x else y) := by cases c <;> rfl
  rw [e] at h; exact h
end
/-- x is None -/
theorem e_isN {r : Rl α} (hn : ∀ F v x, r F v x → v ≠ .non) {m : M (Option α)} {v0 : V} (hv : v0 = .non) (ha : EvC w (ta σ) (fz (rO r)) m F H) : EvC w (tOp (fun x y H Q => y = V.non ∧ Q (.bl (decide (x = V.non))) H) ta (tC v0) σ) (fz rB) (m.bd fun x => .ok x.isNone) F H :=
  EvC.last (D := fun (v : V) H (Q : VK) => tC v0 σ H fun y H2 => y = V.non ∧ Q (.bl (decide (v = V.non))) H2) (R' := fz rB) ha (fun _ => .inl ⟨_, rfl⟩) fun x y v F1 H1 F2 H2 hz e1 e2 hr Q q => by
    cases hz
    refine ⟨hv, q _ _ _ (Xt.refl e2.fh) ?_⟩
    show V.bl _ = V.bl _
    cases x with
    | none => rw [show v = .non from hr]; rfl
    | some y => rw [decide_eq_false (hn _ _ _ hr)]; rfl
theorem e_notN {r : Rl α} (hn : ∀ F v x, r F v x → v ≠ .non) {m : M (Option α)} {v0 : V} (hv : v0 = .non) (ha : EvC w (ta σ) (fz (rO r)) m F H) : EvC w (tOp (fun x y H Q => y = V.non ∧ Q (.bl (!decide (x = V.non))) H) ta (tC v0) σ) (fz rB) (m.bd fun x => .ok x.isSome) F H :=
  EvC.last (D := fun (v : V) H (Q : VK) => tC v0 σ H fun y H2 => y = V.non ∧ Q (.bl (!decide (v = V.non))) H2) (R' := fz rB) ha (fun _ => .inl ⟨_, rfl⟩) fun x y v F1 H1 F2 H2 hz e1 e2 hr Q q => by
    cases hz
    refine ⟨hv, q _ _ _ (Xt.refl e2.fh) ?_⟩
    show V.bl _ = V.bl _
    cases x with
    | none => rw [show v = .non from hr]; rfl
    | some y => rw [decide_eq_false (hn _ _ _ hr)]; rfl
/-! ### displays -/
def EvA {τ : Type} (w : Xw) (ta : TA) (σ : L2.St) (Rs : Hp → Hp → Hp → List V → τ → Prop) (T : ∀ {γ : Type}, (τ → M γ) → M γ) (F H : Hp) : Prop :=
  ∀ F0 H0, Xt F H F0 H0 → ∀ {ω γ : Type} (D : List V → Hp → (ω → Hp → Prop) → Prop) (R' : Hp → Hp → Hp → ω → γ → Prop) [Dn R'] (f : τ → M γ),
    (∀ xs vs F2 H2, Xt F0 H0 F2 H2 → Rs H2 F2 H2 vs xs → EvN w (D vs) R' (f xs) F2 H2) → EvN w (fun H Q => ta σ H fun vs H' => D vs H' Q) R' (T f) F0 H0
def ran : Hp → Hp → Hp → List V → Unit → Prop := fun _ _ _ vs _ => vs = []
def rac {τ : Type} (R : R3 α) (Rs : Hp → Hp → Hp → List V → τ → Prop) : Hp → Hp → Hp → List V → α × τ → Prop := fun H0 F H vs x => ∃ v us, vs = v :: us ∧ R H0 F H v x.1 ∧ Rs H0 F H us x.2
theorem a_nil : EvA w tNil σ ran (fun f => f ()) F H := fun F0 H0 e0 ω γ D R' _ f k => k () [] F0 H0 (Xt.refl e0.fh) rfl
theorem a_cons {τ : Type} {t : TE} {ts : TA} {R : R3 α} [Up R] [Fl R] {Rs : Hp → Hp → Hp → List V → τ → Prop} {m : M α} {T : ∀ {γ : Type}, (τ → M γ) → M γ} (ha : EvC w (t σ) R m F H) (hs : EvA w ts σ Rs T F H) :
    EvA w (tCons t ts) σ (rac R Rs) (fun f => m.bd fun x => T fun xs => f (x, xs)) F H := fun F0 H0 e0 ω γ D R' _ f k => by
  refine EvN.bind (D := fun v H Q => ts σ H fun vs H' => D (v :: vs) H' Q) (ha F0 H0 e0) fun x v F2 H2 e2 hr => ?_
  exact hs F2 H2 (e0.trans e2) (fun vs => D (v :: vs)) R' _ fun xs vs F3 H3 e3 hrs => k (x, xs) (v :: vs) F3 H3 (e2.trans e3) ⟨v, vs, rfl, Fl.fl (Up.up e3 hr), hrs⟩
/-- a list of like items -/
def ral (r : Rl α) : Hp → Hp → Hp → List V → List α → Prop := fun _ F _ vs xs => Al r F vs xs
theorem al_nil {r : Rl α} : EvA w tNil σ (ral r) (fun f => f []) F H := fun F0 H0 e0 ω γ D R' _ f k => k [] [] F0 H0 (Xt.refl e0.fh) .nil
theorem al_cons {r : Rl α} [Mono r] {t : TE} {ts : TA} {m : M α} {T : ∀ {γ : Type}, (List α → M γ) → M γ} (ha : EvC w (t σ) (fz r) m F H) (hs : EvA w ts σ (ral r) T F H) :
    EvA w (tCons t ts) σ (ral r) (fun f => m.bd fun x => T fun xs => f (x :: xs)) F H := fun F0 H0 e0 ω γ D R' _ f k => by
  refine EvN.bind (D := fun v H Q => ts σ H fun vs H' => D (v :: vs) H' Q) (ha F0 H0 e0) fun x v F2 H2 e2 hr => ?_
  exact hs F2 H2 (e0.trans e2) (fun vs => D (v :: vs)) R' _ fun xs vs F3 H3 e3 hrs => k (x :: xs) (v :: vs) F3 H3 (e2.trans e3) (.cons (Mono.mono (r := r) e3.ff hr) hrs)
/-- [a, b, ..]: a new list -/
theorem e_lst {r : Rl α} [Mono r] {ts : TA} {T : ∀ {γ : Type}, (List α → M γ) → M γ} (hs : EvA w ts σ (ral r) T F H) : EvC w (tLst ts σ) (nw r) (T fun xs => M.gd (xs.length ≤ sizeLine) (.ok xs)) F H := fun F0 H0 e0 => by
  refine hs F0 H0 e0 (fun vs H Q => vs.length ≤ sizeLine ∧ ∀ p, H p = none → Q (.ref p) (upd H p (.lst vs))) (nw r) _ fun xs vs F2 H2 e2 al => ?_
  by_cases hz : xs.length ≤ sizeLine
  · rw [M.gd_pos hz]
    exact fun Q q => ⟨by rw [Al.len al]; exact hz, fun p hp => let ⟨x1, x2⟩ := nw_new e2.fh hp al hz; q _ _ _ x1 x2⟩
  · rw [M.gd_neg hz]; trivial
theorem e_tup2 {r : Rl α} {s : Rl β} [Mono r] [Mono s] {ts : TA} {T : ∀ {γ : Type}, (α × β × Unit → M γ) → M γ} (hs : EvA w ts σ (rac (fz r) (rac (fz s) ran)) T F H) : EvC w (tTup ts σ) (fz (rP r s)) (T fun x => .ok (x.1, x.2.1)) F H := fun F0 H0 e0 => by
  refine hs F0 H0 e0 (fun vs H Q => vs.length ≤ sizeLine ∧ ∀ p, H p = none → Q (.ref p) (upd H p (.tup vs))) (fz (rP r s)) _ fun x vs F2 H2 e2 hr => ?_
  obtain ⟨v1, _, rfl, h1, v2, _, rfl, h2, rfl⟩ := hr
  refine fun Q q => ⟨by show 2 ≤ _; rw [sl64]; decide, fun p hp => ?_⟩
  have e3 := (Xt.refl e2.fh).newF hp (o := .tup [v1, v2])
  exact q _ _ _ e3 ⟨p, v1, v2, rfl, upd_same, Mono.mono (r := r) e3.ff h1, Mono.mono (r := s) e3.ff h2⟩
theorem e_tup3 {r : Rl α} {s : Rl β} {t : Rl γ} [Mono r] [Mono s] [Mono t] {ts : TA} {T : ∀ {γ' : Type}, (α × β × γ × Unit → M γ') → M γ'} (hs : EvA w ts σ (rac (fz r) (rac (fz s) (rac (fz t) ran))) T F H) : EvC w (tTup ts σ) (fz (qT3 r s t)) (T fun x => .ok (x.1, x.2.1, x.2.2.1)) F H := fun F0 H0 e0 => by
  refine hs F0 H0 e0 (fun vs H Q => vs.length ≤ sizeLine ∧ ∀ p, H p = none → Q (.ref p) (upd H p (.tup vs))) (fz (qT3 r s t)) _ fun x vs F2 H2 e2 hr => ?_
  obtain ⟨v1, _, rfl, h1, v2, _, rfl, h2, v3, _, rfl, h3, rfl⟩ := hr
  refine fun Q q => ⟨by show 3 ≤ _; rw [sl64]; decide, fun p hp => ?_⟩
  have e3 := (Xt.refl e2.fh).newF hp (o := .tup [v1, v2, v3])
  exact q _ _ _ e3 ⟨p, v1, v2, v3, rfl, upd_same, Mono.mono (r := r) e3.ff h1, Mono.mono (r := s) e3.ff h2, Mono.mono (r := t) e3.ff h3⟩
theorem e_tup4 {r : Rl α} {s : Rl β} {t : Rl γ} {u : Rl δ} [Mono r] [Mono s] [Mono t] [Mono u] {ts : TA} {T : ∀ {γ' : Type}, (α × β × γ × δ × Unit → M γ') → M γ'} (hs : EvA w ts σ (rac (fz r) (rac (fz s) (rac (fz t) (rac (fz u) ran)))) T F H) : EvC w (tTup ts σ) (fz (qT4 r s t u)) (T fun x => .ok (x.1, x.2.1, x.2.2.1, x.2.2.2.1)) F H := fun F0 H0 e0 => by
  refine hs F0 H0 e0 (fun vs H Q => vs.length ≤ sizeLine ∧ ∀ p, H p = none → Q (.ref p) (upd H p (.tup vs))) (fz (qT4 r s t u)) _ fun x vs F2 H2 e2 hr => ?_
  obtain ⟨v1, _, rfl, h1, v2, _, rfl, h2, v3, _, rfl, h3, v4, _, rfl, h4, rfl⟩ := hr
  refine fun Q q => ⟨by show 4 ≤ _; rw [sl64]; decide, fun p hp => ?_⟩
  have e3 := (Xt.refl e2.fh).newF hp (o := .tup [v1, v2, v3, v4])
  exact q _ _ _ e3 ⟨p, v1, v2, v3, v4, rfl, upd_same, Mono.mono (r := r) e3.ff h1, Mono.mono (r := s) e3.ff h2, Mono.mono (r := t) e3.ff h3, Mono.mono (r := u) e3.ff h4⟩
/-- any tuple, its items forgotten -/
theorem e_tupX {τ : Type} {Rs : Hp → Hp → Hp → List V → τ → Prop} {ts : TA} {T : ∀ {γ' : Type}, (τ → M γ') → M γ'} (hl : ∀ H0 F H vs x, Rs H0 F H vs x → vs.length ≤ 1000) (hs : EvA w ts σ Rs T F H) : EvC w (tTup ts σ) (fz qX) (T fun x => .ok ()) F H := fun F0 H0 e0 => by
  refine hs F0 H0 e0 (fun vs H Q => vs.length ≤ sizeLine ∧ ∀ p, H p = none → Q (.ref p) (upd H p (.tup vs))) (fz qX) _ fun x vs F2 H2 e2 hr => ?_
  refine fun Q q => ⟨by have := hl _ _ _ _ _ hr; rw [sl64]; omega, fun p hp => ?_⟩
  exact q _ _ _ ((Xt.refl e2.fh).newF hp (o := .tup vs)) trivial
end
end SF
namespace SF
open PySem PySem.Spec PyProof.Rows L2
theorem lc_pure {α β : Type} {p : α → Bool} {f : α → β} : ∀ xs : List α, M.lc (fun x => .ok (p x)) (fun x => .ok (f x)) xs = .ok ((xs.filter p).map f)
  | [] => rfl
  | x :: r => by
    show (if p x = true then (M.lc _ _ r).bd fun ys => .ok (f x :: ys) else M.lc _ _ r) = _
    rw [lc_pure r, List.filter_cons]
    cases p x <;> rfl
theorem lc_map {α β : Type} {f : α → β} (xs : List α) : M.lc (fun _ => .ok true) (fun x => .ok (f x)) xs = .ok (xs.map f) := by
  rw [lc_pure]; congr 2; exact List.filter_eq_self.mpr fun _ _ => rfl
theorem lc_fil {α : Type} {p : α → Bool} (xs : List α) : M.lc (fun x => .ok (p x)) (fun x => .ok x) xs = .ok (xs.filter p) := by
  rw [lc_pure, List.map_id']
theorem atI_nat' {α : Type} {xs : List α} {i : Nat} : atI xs (i : Int) = xs[i]? := by
  unfold atI ixN
  rw [if_pos (by omega)]
  by_cases h : i < xs.length
  · rw [if_pos (by omega), Int.toNat_natCast]; rfl
  · rw [if_neg (by omega)]
    exact (List.getElem?_eq_none_iff.mpr (by omega)).symm
theorem atI_al {α : Type} {r : Rl α} {F : Hp} {vs : List V} {xs : List α} {i : Int} {x : α} (al : Al r F vs xs) (h : atI xs i = some x) : ∃ v, atI vs i = some v ∧ r F v x := by
  unfold atI at h ⊢
  rw [al.len]
  cases e : ixN xs.length i with
  | none => rw [e] at h; cases h
  | some j =>
    rw [e] at h
    exact al.get' h
/-- a part of a list, by python's rule -/
def cutG {α : Type} (l : List α) (lo hi : Option Int) : List α := (l.drop (HT.sIx l.length 0 lo)).take (HT.sIx l.length l.length hi - HT.sIx l.length 0 lo)
theorem cutG_le {α : Type} (l : List α) (lo hi : Option Int) : (cutG l lo hi).length ≤ l.length := by
  unfold cutG
  rw [List.length_take, List.length_drop]
  omega
/-- keys -/
class KR {κ : Type} (r : Rl κ) (enc : κ → Key) : Prop where
  kr : ∀ {F v k}, r F v k → v = kV (enc k)
  inj : ∀ a b, enc a = enc b → a = b
class KT {κ : Type} (r : Rl κ) (enc : κ → List Key) : Prop where
  kt : ∀ {F v k}, r F v k → ∃ b, v = .ref b ∧ F b = some (.tup ((enc k).map kV))
  inj : ∀ a b, enc a = enc b → a = b
def encI (i : Int) : Key := Sum.inl i
def encU (i : Nat) : Key := Sum.inl (i : Int)
def encS' (l : List Nat) : Key := Sum.inr (S l)
instance : KR rI encI := ⟨fun h => h, fun _ _ h => Sum.inl.inj h⟩
instance : KR rNat encU := ⟨fun h => h, fun _ _ h => by have := Sum.inl.inj h; omega⟩
instance : KR rC encN := ⟨fun h => h, encN_inj⟩
instance : KR qS encS' := ⟨fun h => h.1, fun _ _ h => S_inj.mp (Sum.inr.inj h)⟩
def encT2 {α β : Type} (e1 : α → Key) (e2 : β → Key) (x : α × β) : List Key := [e1 x.1, e2 x.2]
def encT3 {α β γ : Type} (e1 : α → Key) (e2 : β → Key) (e3 : γ → Key) (x : α × β × γ) : List Key := [e1 x.1, e2 x.2.1, e3 x.2.2]
instance {α β : Type} {r : Rl α} {s : Rl β} {e1 : α → Key} {e2 : β → Key} [KR r e1] [KR s e2] : KT (rP r s) (encT2 e1 e2) := ⟨fun h => by
  obtain ⟨a, u, w, e, h0, h1, h2⟩ := h
  exact ⟨a, e, by rw [h0, KR.kr (enc := e1) h1, KR.kr (enc := e2) h2]; rfl⟩, fun x y h => by
  injection h with h1 h
  injection h with h2 _
  exact Prod.ext (KR.inj (r := r) _ _ h1) (KR.inj (r := s) _ _ h2)⟩
instance {α β γ : Type} {r : Rl α} {s : Rl β} {t : Rl γ} {e1 : α → Key} {e2 : β → Key} {e3 : γ → Key} [KR r e1] [KR s e2] [KR t e3] : KT (qT3 r s t) (encT3 e1 e2 e3) := ⟨fun h => by
  obtain ⟨a, u, w, z, e, h0, h1, h2, h3⟩ := h
  exact ⟨a, e, by rw [h0, KR.kr (enc := e1) h1, KR.kr (enc := e2) h2, KR.kr (enc := e3) h3]; rfl⟩, fun x y h => by
  injection h with h1 h
  injection h with h2 h
  injection h with h3 _
  exact Prod.ext (KR.inj (r := r) _ _ h1) (Prod.ext (KR.inj (r := s) _ _ h2) (KR.inj (r := t) _ _ h3))⟩
section
variable {w : Xw} {σ : L2.St} {F H : Hp} {K : PySem.W.Frag} {α β γ δ : Type} {ta tb tc : TE}
/-! ### subscripts -/
theorem e_ixU {r : Rl α} [Mono r] {m : M (List α)} {n : M Nat} (ha : EvC w (ta σ) (lb r) m F H) (hb : EvC w (tb σ) (fz rNat) n F H) : EvC w (tOp (rIxL K) ta tb σ) (fz r) (m.bd fun xs => n.bd fun i => M.of xs[i]?) F H :=
  e_op ha hb (fun _ _ => of_or) fun hz h1 h2 s Q q => by
    obtain ⟨a, vs, rfl, e, al, _⟩ := h1
    obtain ⟨v, hv, hr⟩ := al.get' (of_ok hz)
    exact ⟨a, vs, _, v, rfl, h2, SqL.of e, at_ofG rfl hv, q _ _ _ (Xt.refl s) hr⟩
theorem e_ixI {r : Rl α} [Mono r] {m : M (List α)} {n : M Int} (ha : EvC w (ta σ) (lb r) m F H) (hb : EvC w (tb σ) (fz rI) n F H) : EvC w (tOp (rIxL K) ta tb σ) (fz r) (m.bd fun xs => n.bd fun i => M.of (atI xs i)) F H :=
  e_op ha hb (fun _ _ => of_or) fun hz h1 h2 s Q q => by
    obtain ⟨a, vs, rfl, e, al, _⟩ := h1
    obtain ⟨v, hv, hr⟩ := atI_al al (of_ok hz)
    exact ⟨a, vs, _, v, rfl, h2, SqL.of e, hv, q _ _ _ (Xt.refl s) hr⟩
theorem e_ixS {m : M (List Nat)} {n : M Nat} (ha : EvC w (ta σ) (fz qS) m F H) (hb : EvC w (tb σ) (fz rNat) n F H) : EvC w (tOp rIxS ta tb σ) (fz rC) (m.bd fun xs => n.bd fun i => M.of xs[i]?) F H :=
  e_op ha hb (fun _ _ => of_or) fun hz h1 h2 s Q q => by
    obtain ⟨rfl, hl⟩ := h1
    exact ⟨_, _, _, rfl, h2, by rw [S_len]; exact hl, by rw [S_cps]; exact at_ofG rfl (of_ok hz), q _ _ _ (Xt.refl s) rfl⟩
theorem e_ixSI {m : M (List Nat)} {n : M Int} (ha : EvC w (ta σ) (fz qS) m F H) (hb : EvC w (tb σ) (fz rI) n F H) : EvC w (tOp rIxS ta tb σ) (fz rC) (m.bd fun xs => n.bd fun i => M.of (atI xs i)) F H :=
  e_op ha hb (fun _ _ => of_or) fun hz h1 h2 s Q q => by
    obtain ⟨rfl, hl⟩ := h1
    exact ⟨_, _, _, rfl, h2, by rw [S_len]; exact hl, by rw [S_cps]; exact of_ok hz, q _ _ _ (Xt.refl s) rfl⟩
theorem e_tupix {R : Rl α} {r' : Rl β} {f : α → β} {k : Int} {m : M α} (ha : EvC w (ta σ) (fz R) m F H) (hk : ∀ F v x, R F v x → ∃ p xs u, v = .ref p ∧ F p = some (.tup xs) ∧ atI xs k = some u ∧ r' F u (f x)) :
    EvC w (tOp (rIxT K) ta (tC (.int k)) σ) (fz r') (m.bd fun x => .ok (f x)) F H :=
  EvC.last (D := fun (v : V) H (Q : VK) => tC (.int k) σ H fun y H2 => rIxT K v y H2 Q) (R' := fz r') ha (fun _ => .inl ⟨_, rfl⟩) fun x y v F1 H1 F2 H2 hz e1 e2 hr Q q => by
    cases hz
    obtain ⟨p, xs, u, rfl, h1, h2, h3⟩ := hk _ _ _ hr
    exact ⟨p, xs, k, u, rfl, rfl, SqT.of (e2.fh _ _ h1), h2, q _ _ _ (Xt.refl e2.fh) h3⟩
theorem e_2_0 {r : Rl α} {s : Rl β} {m : M (α × β)} (ha : EvC w (ta σ) (fz (rP r s)) m F H) : EvC w (tOp (rIxT K) ta (tC (.int 0)) σ) (fz r) (m.bd fun x => .ok x.1) F H := e_tupix ha fun F v x ⟨a, u, z, e, h0, h1, h2⟩ => ⟨a, _, u, e, h0, rfl, h1⟩
theorem e_2_1 {r : Rl α} {s : Rl β} {m : M (α × β)} (ha : EvC w (ta σ) (fz (rP r s)) m F H) : EvC w (tOp (rIxT K) ta (tC (.int 1)) σ) (fz s) (m.bd fun x => .ok x.2) F H := e_tupix ha fun F v x ⟨a, u, z, e, h0, h1, h2⟩ => ⟨a, _, z, e, h0, rfl, h2⟩
theorem e_3_0 {r : Rl α} {s : Rl β} {t : Rl γ} {m : M (α × β × γ)} (ha : EvC w (ta σ) (fz (qT3 r s t)) m F H) : EvC w (tOp (rIxT K) ta (tC (.int 0)) σ) (fz r) (m.bd fun x => .ok x.1) F H := e_tupix ha fun F v x ⟨a, u, z, y, e, h0, h1, h2, h3⟩ => ⟨a, _, u, e, h0, rfl, h1⟩
theorem e_3_1 {r : Rl α} {s : Rl β} {t : Rl γ} {m : M (α × β × γ)} (ha : EvC w (ta σ) (fz (qT3 r s t)) m F H) : EvC w (tOp (rIxT K) ta (tC (.int 1)) σ) (fz s) (m.bd fun x => .ok x.2.1) F H := e_tupix ha fun F v x ⟨a, u, z, y, e, h0, h1, h2, h3⟩ => ⟨a, _, z, e, h0, rfl, h2⟩
theorem e_3_2 {r : Rl α} {s : Rl β} {t : Rl γ} {m : M (α × β × γ)} (ha : EvC w (ta σ) (fz (qT3 r s t)) m F H) : EvC w (tOp (rIxT K) ta (tC (.int 2)) σ) (fz t) (m.bd fun x => .ok x.2.2) F H := e_tupix ha fun F v x ⟨a, u, z, y, e, h0, h1, h2, h3⟩ => ⟨a, _, y, e, h0, rfl, h3⟩
/-! ### parts -/
def peq : Hp → Hp → Hp → Option Int → Option Int → Prop := fun _ _ _ o x => o = x
instance : Dn peq := ⟨fun _ h => h⟩
instance : Up peq := ⟨fun _ h => h⟩
instance : Fl peq := ⟨fun h => h⟩
theorem o_none : EvC w (tNoPart σ) peq (.ok none) F H := fun F1 H1 e Q q => q _ _ _ (Xt.refl e.fh) rfl
theorem o_some {m : M Int} (ha : EvC w (ta σ) (fz rI) m F H) : EvC w (tPart ta σ) peq (m.bd fun x => .ok (some x)) F H :=
  EvC.last (D := fun (v : V) H (Q : Option Int → Hp → Prop) => ∃ i, v = .int i ∧ Q (some i) H) (R' := peq) ha (fun _ => .inl ⟨_, rfl⟩) fun x y v F1 H1 F2 H2 hz e1 e2 hr Q q => by cases hz; exact ⟨_, hr, q _ _ _ (Xt.refl e2.fh) rfl⟩
section
variable {tl th : TO} {a b : M (Option Int)}
theorem e_slS {m : M (List Nat)} (ha : EvC w (ta σ) (fz qS) m F H) (hl : EvC w (tl σ) peq a F H) (hh : EvC w (th σ) peq b F H) : EvC w (tSl rSlS ta tl th σ) (fz qS) (m.bd fun x => a.bd fun lo => b.bd fun hi => .ok (cutG x lo hi)) F H :=
  EvC.bind (D := fun (x : V) H (Q : VK) => tl σ H fun l H2 => th σ H2 fun u H3 => rSlS x l u H3 Q) (R' := fz qS) ha fun x v F1 H1 F2 H2 e1 e2 hr => by
    obtain ⟨rfl, hz⟩ := hr
    refine EvN.bind (D := fun l H (Q : VK) => th σ H fun u H3 => rSlS _ l u H3 Q) (hl F2 H2 (e1.trans e2)) fun lo _ F3 H3 e3 hlo => ?_
    cases hlo
    refine EvN.bind (D := fun u H (Q : VK) => rSlS _ lo u H Q) (hh F3 H3 ((e1.trans e2).trans e3)) fun hi _ F4 H4 e4 hhi => ?_
    cases hhi
    exact fun Q q => ⟨_, rfl, by rw [S_len]; exact hz, q _ _ _ (Xt.refl e4.fh) ⟨by rw [S_cut]; rfl, Nat.le_trans (cutG_le _ _ _) hz⟩⟩
theorem Al.cut {r : Rl α} {F : Hp} {vs : List V} {xs : List α} (h : Al r F vs xs) (lo hi : Option Int) : Al r F (cutV vs lo hi) (cutG xs lo hi) := by
  have dr : ∀ (k : Nat) {vs : List V} {xs : List α}, Al r F vs xs → Al r F (vs.drop k) (xs.drop k) := by
    intro k
    induction k with
    | zero => exact fun h => h
    | succ k ih => intro vs xs h; cases h with
      | nil => exact .nil
      | cons h t => exact ih t
  have tk : ∀ (k : Nat) {vs : List V} {xs : List α}, Al r F vs xs → Al r F (vs.take k) (xs.take k) := by
    intro k
    induction k with
    | zero => exact fun _ => .nil
    | succ k ih => intro vs xs h; cases h with
      | nil => exact .nil
      | cons h t => exact .cons h (ih t)
  unfold cutV cutG
  rw [h.len]
  exact tk _ (dr _ h)
theorem e_slL {r : Rl α} [Mono r] {m : M (List α)} (ha : EvC w (ta σ) (lb r) m F H) (hl : EvC w (tl σ) peq a F H) (hh : EvC w (th σ) peq b F H) : EvC w (tSl (rSlL K) ta tl th σ) (nw r) (m.bd fun x => a.bd fun lo => b.bd fun hi => .ok (cutG x lo hi)) F H :=
  EvC.bind (D := fun (x : V) H (Q : VK) => tl σ H fun l H2 => th σ H2 fun u H3 => rSlL K x l u H3 Q) (R' := nw r) ha fun x v F1 H1 F2 H2 e1 e2 hr => by
    refine EvN.bind (D := fun l H (Q : VK) => th σ H fun u H3 => rSlL K v l u H3 Q) (hl F2 H2 (e1.trans e2)) fun lo _ F3 H3 e3 hlo => ?_
    cases hlo
    refine EvN.bind (D := fun u H (Q : VK) => rSlL K v lo u H Q) (hh F3 H3 ((e1.trans e2).trans e3)) fun hi _ F4 H4 e4 hhi => ?_
    cases hhi
    obtain ⟨a, vs, rfl, e, al, hz⟩ := Up.up (R := lb r) (e3.trans e4) (Fl.fl (H0' := H4) hr)
    exact fun Q q => ⟨a, vs, rfl, SqL.of e, fun p hp => let ⟨x1, x2⟩ := nw_new e4.fh hp (al.cut lo hi) (Nat.le_trans (cutG_le _ _ _) hz); q _ _ _ x1 x2⟩
end
theorem Al.rev' {r : Rl α} {F : Hp} : ∀ {vs : List V} {xs : List α}, Al r F vs xs → Al r F vs.reverse xs.reverse
  | _, _, .nil => .nil
  | _, _, .cons h t => by
    rw [List.reverse_cons, List.reverse_cons]
    exact (Al.rev' t).snoc h
theorem e_revS {m : M (List Nat)} (ha : EvC w (ta σ) (fz qS) m F H) : EvC w (tRevS ta σ) (fz qS) (m.bd fun x => .ok x.reverse) F H :=
  EvC.last (D := fun (v : V) H (Q : VK) => ∃ l, v = .str (S l) ∧ l.length ≤ sizeLine ∧ Q (.str (S l.reverse)) H) (R' := fz qS) ha (fun _ => .inl ⟨_, rfl⟩) fun x y v F1 H1 F2 H2 hz e1 e2 hr Q q => by
    cases hz
    obtain ⟨rfl, hz⟩ := hr
    exact ⟨_, rfl, hz, q _ _ _ (Xt.refl e2.fh) ⟨rfl, by rw [List.length_reverse]; exact hz⟩⟩
theorem e_revL {r : Rl α} [Mono r] {m : M (List α)} (ha : EvC w (ta σ) (lb r) m F H) : EvC w (tRevL K ta σ) (nw r) (m.bd fun x => .ok x.reverse) F H :=
  EvC.last (D := fun (v : V) H (Q : VK) => ∃ a xs, v = .ref a ∧ SqL K H a xs ∧ ∀ p, H p = none → Q (.ref p) (upd H p (.lst xs.reverse))) (R' := nw r) ha (fun _ => .inl ⟨_, rfl⟩) fun x y v F1 H1 F2 H2 hz e1 e2 hr Q q => by
    cases hz
    obtain ⟨a, vs, rfl, e, al, hz⟩ := hr
    exact ⟨a, vs, rfl, SqL.of e, fun p hp => let ⟨x1, x2⟩ := nw_new e2.fh hp al.rev' (by rw [List.length_reverse]; exact hz); q _ _ _ x1 x2⟩
/-! ### dicts -/
section
variable {κ : Type} [DecidableEq κ] {enc : κ → Key} {encT : κ → List Key} {r : Rl α} {rk : Rl κ} {m : M (List (κ × α))} {n : M κ}
theorem db_get [KR rk enc] {F H : Hp} {v u : V} {x : List (κ × α)} {k : κ} {H0 : Hp} (h : db enc r H0 F H v x) (hk : rk F u k) : ∃ a o, v = .ref a ∧ IsD H a ∧ DGet H a u o ∧ ((aGet x k = none ∧ o = none) ∨ ∃ y z, aGet x k = some y ∧ o = some z ∧ r F z y) := by
  obtain ⟨a, kvs, rfl, e, ad, _⟩ := h
  refine ⟨a, valV kvs (enc k), rfl, .inl ⟨_, Rd.of e⟩, by rw [KR.kr (enc := enc) hk]; exact DGet.k e, ?_⟩
  exact AD.get (KR.inj (r := rk) (enc := enc)) k ad
theorem dbT_get [KT rk encT] {F H : Hp} {v u : V} {x : List (κ × α)} {k : κ} {H0 : Hp} (s : Same F H) (h : dbT encT r H0 F H v x) (hk : rk F u k) : ∃ a o, v = .ref a ∧ IsD H a ∧ DGet H a u o ∧ ((aGet x k = none ∧ o = none) ∨ ∃ y z, aGet x k = some y ∧ o = some z ∧ r F z y) := by
  obtain ⟨a, kvs, rfl, e, ad, _⟩ := h
  obtain ⟨b, rfl, hb⟩ := KT.kt (enc := encT) hk
  refine ⟨a, valV kvs (encT k), rfl, .inr ⟨_, Rd.of e⟩, DGet.t e (s _ _ hb), ?_⟩
  exact AD.get (KT.inj (r := rk) (enc := encT)) k ad
/-- how a dict answers, whatever its keys -/
class DG (R : R3 (List (κ × α))) (rk : Rl κ) (r : outParam (Rl α)) : Prop where
  isd : ∀ {H0 F H v x}, R H0 F H v x → ∃ a, v = .ref a ∧ IsD H a
  dg : ∀ {H0 F H v u x k}, Same F H → R H0 F H v x → rk F u k → ∃ a o, v = .ref a ∧ IsD H a ∧ DGet H a u o ∧ ((aGet x k = none ∧ o = none) ∨ ∃ y z, aGet x k = some y ∧ o = some z ∧ r F z y)
instance [KR rk enc] : DG (db enc r) rk r := ⟨fun ⟨a, kvs, e1, e, _⟩ => ⟨a, e1, .inl ⟨_, Rd.of e⟩⟩, fun _ h hk => db_get h hk⟩
instance [KT rk encT] : DG (dbT encT r) rk r := ⟨fun ⟨a, kvs, e1, e, _⟩ => ⟨a, e1, .inr ⟨_, Rd.of e⟩⟩, fun s h hk => dbT_get s h hk⟩
section
variable {R : R3 (List (κ × α))} [DG R rk r] [Up R] [Fl R] [Mono r] [Mono rk]
theorem e_dget (ha : EvC w (ta σ) R m F H) (hb : EvC w (tb σ) (fz rk) n F H) : EvC w (tDGet ta tb σ) (fz r) (m.bd fun x => n.bd fun k => M.of (aGet x k)) F H := by
  refine EvC.bind (D := fun (x : V) H (Q : VK) => tb σ H fun y H2 => ∃ a v, x = .ref a ∧ DGet H2 a y (some v) ∧ Q v H2) (R' := fz r) ha fun x v F1 H1 F2 H2 e1 e2 hr => ?_
  refine EvC.last (D := fun (y : V) H (Q : VK) => ∃ a u, v = .ref a ∧ DGet H a y (some u) ∧ Q u H) (R' := fz r) (hb.up (e1.trans e2)) (fun _ => of_or) (fun k z u F3 H3 F4 H4 hz e3 e4 hk Q q => ?_) F2 H2 (Xt.refl e2.fh)
  obtain ⟨a, o, rfl, _, hd, hc⟩ := DG.dg (R := R) (rk := rk) (r := r) (H0 := H1) e4.fh (Up.up (e3.trans e4) hr) hk
  have hz := of_ok hz
  rcases hc with ⟨c1, _⟩ | ⟨y, z', c1, rfl, c3⟩
  · rw [c1] at hz; cases hz
  · rw [c1] at hz; cases hz
    exact ⟨a, z', rfl, hd, q _ _ _ (Xt.refl e4.fh) c3⟩
theorem e_din {r : Rl α} [DG R rk r] [Up R] [Fl R] [Mono rk] (hb : EvC w (tb σ) (fz rk) n F H) (ha : EvC w (ta σ) R m F H) : EvC w (tDIn tb ta σ) (fz rB) (n.bd fun k => m.bd fun x => .ok (aGet x k).isSome) F H := by
  refine EvC.bind (D := fun (y : V) H (Q : VK) => ta σ H fun x H2 => ∃ a o, x = .ref a ∧ DGet H2 a y o ∧ Q (.bl o.isSome) H2) (R' := fz rB) hb fun k u F1 H1 F2 H2 e1 e2 hk => ?_
  refine EvC.last (D := fun (x : V) H (Q : VK) => ∃ a o, x = .ref a ∧ DGet H a u o ∧ Q (.bl o.isSome) H) (R' := fz rB) (ha.up (e1.trans e2)) (fun _ => .inl ⟨_, rfl⟩) (fun x z v F3 H3 F4 H4 hz e3 e4 hr Q q => ?_) F2 H2 (Xt.refl e2.fh)
  cases hz
  obtain ⟨a, o, rfl, _, hd, hc⟩ := DG.dg (R := R) (rk := rk) (r := r) (H0 := H3) e4.fh hr (Mono.mono (r := rk) (e3.trans e4).ff hk)
  refine ⟨a, o, rfl, hd, q _ _ _ (Xt.refl e4.fh) ?_⟩
  rcases hc with ⟨c1, rfl⟩ | ⟨y, z', c1, rfl, c3⟩ <;> rw [c1] <;> rfl
theorem e_dnotin {r : Rl α} [DG R rk r] [Up R] [Fl R] [Mono rk] (hb : EvC w (tb σ) (fz rk) n F H) (ha : EvC w (ta σ) R m F H) : EvC w (tDNotIn tb ta σ) (fz rB) (n.bd fun k => m.bd fun x => .ok (!(aGet x k).isSome)) F H := by
  refine EvC.bind (D := fun (y : V) H (Q : VK) => ta σ H fun x H2 => ∃ a o, x = .ref a ∧ DGet H2 a y o ∧ Q (.bl (!o.isSome)) H2) (R' := fz rB) hb fun k u F1 H1 F2 H2 e1 e2 hk => ?_
  refine EvC.last (D := fun (x : V) H (Q : VK) => ∃ a o, x = .ref a ∧ DGet H a u o ∧ Q (.bl (!o.isSome)) H) (R' := fz rB) (ha.up (e1.trans e2)) (fun _ => .inl ⟨_, rfl⟩) (fun x z v F3 H3 F4 H4 hz e3 e4 hr Q q => ?_) F2 H2 (Xt.refl e2.fh)
  cases hz
  obtain ⟨a, o, rfl, _, hd, hc⟩ := DG.dg (R := R) (rk := rk) (r := r) (H0 := H3) e4.fh hr (Mono.mono (r := rk) (e3.trans e4).ff hk)
  refine ⟨a, o, rfl, hd, q _ _ _ (Xt.refl e4.fh) ?_⟩
  rcases hc with ⟨c1, rfl⟩ | ⟨y, z', c1, rfl, c3⟩ <;> rw [c1] <;> rfl
theorem e_dget1 (ha : EvC w (ta σ) R m F H) (hb : EvC w (tb σ) (fz rk) n F H) : EvC w (tDGet1 ta tb σ) (fz (rO r)) (m.bd fun x => n.bd fun k => .ok (aGet x k)) F H := by
  intro F0 H0 e0
  have ha' : EvC w (fun H Q => ta σ H fun x H1 => Q x H1) R m F H := ha
  refine EvC.bind (D := fun (x : V) H (Q : VK) => ∃ a, x = .ref a ∧ IsD H a ∧ tb σ H fun y H2 => ∃ o, DGet H2 a y o ∧ Q (o.getD .non) H2) (R' := fz (rO r)) ha (fun x v F1 H1 F2 H2 e1 e2 hr => ?_) F0 H0 e0
  have hb2 := hb F2 H2 (e1.trans e2)
  cases n with
  | bad => trivial
  | exc e =>
    intro o Q
    have : ∃ a, v = .ref a ∧ IsD H2 a := DG.isd (R := R) (rk := rk) (r := r) hr
    obtain ⟨a, rfl, hd⟩ := this
    exact ⟨a, rfl, hd, hb2 o _⟩
  | ok k =>
    intro Q q
    obtain ⟨a, rfl, hd⟩ : ∃ a, v = .ref a ∧ IsD H2 a := DG.isd (R := R) (rk := rk) (r := r) hr
    refine ⟨a, rfl, hd, hb2 _ fun u F3 H3 e3 hk => ?_⟩
    obtain ⟨a', o, ea, _, hd, hc⟩ := DG.dg (R := R) (rk := rk) (r := r) (H0 := H1) e3.fh (Up.up e3 hr) hk
    cases ea
    refine ⟨o, hd, q _ _ _ e3 ?_⟩
    rcases hc with ⟨c1, rfl⟩ | ⟨y, z', c1, rfl, c3⟩
    · rw [c1]; rfl
    · rw [c1]; exact c3
theorem e_dget2 {tx : TE} {d : M α} (ha : EvC w (ta σ) R m F H) (hb : EvC w (tb σ) (fz rk) n F H) (hx : EvC w (tx σ) (fz r) d F H) : EvC w (tDGet2 ta tb tx σ) (fz r) (m.bd fun x => n.bd fun k => d.bd fun z => .ok ((aGet x k).getD z)) F H := by
  intro F0 H0 e0
  refine EvC.bind (D := fun (x : V) H (Q : VK) => ∃ a, x = .ref a ∧ IsD H a ∧ tb σ H fun y H2 => tx σ H2 fun z H3 => ∃ o, DGet H3 a y o ∧ Q (o.getD z) H3) (R' := fz r) ha (fun x v F1 H1 F2 H2 e1 e2 hr => ?_) F0 H0 e0
  obtain ⟨a, rfl, hd⟩ : ∃ a, v = .ref a ∧ IsD H2 a := DG.isd (R := R) (rk := rk) (r := r) hr
  have key : EvN w (fun H (Q : VK) => tb σ H fun y H2 => tx σ H2 fun z H3 => ∃ o, DGet H3 a y o ∧ Q (o.getD z) H3) (fz r) (n.bd fun k => d.bd fun z => .ok ((aGet x k).getD z)) F2 H2 := by
    refine EvN.bind (D := fun y H (Q : VK) => tx σ H fun z H3 => ∃ o, DGet H3 a y o ∧ Q (o.getD z) H3) (hb F2 H2 (e1.trans e2)) fun k u F3 H3 e3 hk => ?_
    refine EvN.bind (D := fun z H (Q : VK) => ∃ o, DGet H a u o ∧ Q (o.getD z) H) (hx F3 H3 ((e1.trans e2).trans e3)) fun z vz F4 H4 e4 hz => ?_
    intro Q q
    obtain ⟨a', o, ea, _, hd, hc⟩ := DG.dg (R := R) (rk := rk) (r := r) (H0 := H1) e4.fh (Up.up (e3.trans e4) hr) (Mono.mono (r := rk) e4.ff hk)
    cases ea
    refine ⟨o, hd, q _ _ _ (Xt.refl e4.fh) ?_⟩
    rcases hc with ⟨c1, rfl⟩ | ⟨y, z', c1, rfl, c3⟩
    · rw [c1]; exact hz
    · rw [c1]; exact c3
  show EvN w _ _ (n.bd fun k => d.bd fun z => .ok ((aGet x k).getD z)) F2 H2
  cases hn : (n.bd fun k => d.bd fun z => M.ok ((aGet x k).getD z)) with
  | bad => trivial
  | exc e => rw [hn] at key; exact fun o Q => ⟨a, rfl, hd, key o _⟩
  | ok y => rw [hn] at key; exact fun Q q => ⟨a, rfl, hd, key Q q⟩
end
end
end
end SF
namespace SF
open PySem PySem.Spec PyProof.Rows L2
/-- values that == and in compare by value -/
class Fla {α : Type} [DecidableEq α] (r : Rl α) : Prop where
  fla : ∀ {F v u} {x y : α}, r F v x → r F u y → flatV v = true ∧ eqV v u = decide (x = y)
theorem eqV_ss (a b : List Nat) : eqV (.str (S a)) (.str (S b)) = decide (a = b) := by
  show (S a == S b) = _
  by_cases h : a = b
  · subst h; simp
  · rw [decide_eq_false h, beq_eq_false_iff_ne]
    exact fun e => h (S_inj.mp e)
instance : Fla qS := ⟨fun h1 h2 => by obtain ⟨rfl, _⟩ := h1; obtain ⟨rfl, _⟩ := h2; exact ⟨rfl, eqV_ss _ _⟩⟩
instance : Fla rC := ⟨fun h1 h2 => by
  cases h1; cases h2
  refine ⟨rfl, ?_⟩
  rw [eqV_ss]
  exact decide_eq_decide.mpr (by simp)⟩
theorem eqV_ii (a b : Int) : eqV (.int a) (.int b) = decide (a = b) := by
  show (a == b) = _
  by_cases h : a = b
  · subst h; simp
  · rw [decide_eq_false h, beq_eq_false_iff_ne]
    exact h
instance : Fla rI := ⟨fun h1 h2 => by cases h1; cases h2; exact ⟨rfl, eqV_ii _ _⟩⟩
instance : Fla rNat := ⟨fun h1 h2 => by
  cases h1; cases h2
  refine ⟨rfl, ?_⟩
  rw [eqV_ii]
  exact decide_eq_decide.mpr (by omega)⟩
theorem inV_al {α : Type} [DecidableEq α] {r : Rl α} [Fla r] {F : Hp} {v : V} {x : α} (hx : r F v x) : ∀ {vs : List V} {xs : List α}, Al r F vs xs → vs.all flatV = true ∧ inV v vs = decide (x ∈ xs)
  | _, _, .nil => ⟨rfl, rfl⟩
  | _, _, .cons (l₁ := us) (l₂ := ys) (a := u) (b := y) h t => by
    obtain ⟨h1, h2⟩ := inV_al hx t
    obtain ⟨f1, f2⟩ := Fla.fla (r := r) h hx
    unfold inV at h2 ⊢
    rw [List.all_cons, List.any_cons, h1, h2, f1, f2]
    refine ⟨rfl, ?_⟩
    by_cases e : y = x
    · subst e; simp
    · have e' : ¬ x = y := fun z => e z.symm
      simp [e, e']
/-- a tuple of like items -/
def qTL {α : Type} (r : Rl α) : Rl (List α) := fun F v xs => ∃ a vs, v = .ref a ∧ F a = some (.tup vs) ∧ Al r F vs xs
instance {α : Type} {r : Rl α} [Mono r] : Mono (qTL r) := ⟨fun e h => by
  obtain ⟨a, vs, e1, h1, h2⟩ := h
  exact ⟨a, vs, e1, e _ _ h1, h2.mono e⟩⟩
section
variable {w : Xw} {σ : L2.St} {F H : Hp} {K : PySem.W.Frag} {α β γ δ : Type} {ta tb tc : TE}
theorem e_in [DecidableEq α] {r : Rl α} [Mono r] [Fla r] {m : M α} {n : M (List α)} (ha : EvC w (ta σ) (fz r) m F H) (hb : EvC w (tb σ) (lb r) n F H) : EvC w (tOp (rIn K false) ta tb σ) (fz rB) (m.bd fun x => n.bd fun xs => .ok (decide (x ∈ xs))) F H :=
  e_op ha hb (fun _ _ => .inl ⟨_, rfl⟩) fun hz h1 h2 s Q q => by
    cases hz
    obtain ⟨a, vs, rfl, e, al, _⟩ := h2
    obtain ⟨i1, i2⟩ := inV_al (r := r) h1 al
    refine ⟨a, vs, rfl, .inl (SqL.of e), (Fla.fla (r := r) h1 h1).1, i1, ?_⟩
    rw [if_neg Bool.false_ne_true, i2]
    exact q _ _ _ (Xt.refl s) rfl
theorem e_nin [DecidableEq α] {r : Rl α} [Mono r] [Fla r] {m : M α} {n : M (List α)} (ha : EvC w (ta σ) (fz r) m F H) (hb : EvC w (tb σ) (lb r) n F H) : EvC w (tOp (rIn K true) ta tb σ) (fz rB) (m.bd fun x => n.bd fun xs => .ok (!decide (x ∈ xs))) F H :=
  e_op ha hb (fun _ _ => .inl ⟨_, rfl⟩) fun hz h1 h2 s Q q => by
    cases hz
    obtain ⟨a, vs, rfl, e, al, _⟩ := h2
    obtain ⟨i1, i2⟩ := inV_al (r := r) h1 al
    refine ⟨a, vs, rfl, .inl (SqL.of e), (Fla.fla (r := r) h1 h1).1, i1, ?_⟩
    rw [if_pos rfl, i2]
    exact q _ _ _ (Xt.refl s) rfl
theorem e_ninT [DecidableEq α] {r : Rl α} [Mono r] [Fla r] {m : M α} {n : M (List α)} (ha : EvC w (ta σ) (fz r) m F H) (hb : EvC w (tb σ) (fz (qTL r)) n F H) : EvC w (tOp (rIn K true) ta tb σ) (fz rB) (m.bd fun x => n.bd fun xs => .ok (!decide (x ∈ xs))) F H :=
  e_op ha hb (fun _ _ => .inl ⟨_, rfl⟩) fun hz h1 h2 s Q q => by
    cases hz
    obtain ⟨a, vs, rfl, e, al⟩ := h2
    obtain ⟨i1, i2⟩ := inV_al (r := r) h1 al
    refine ⟨a, vs, rfl, .inr (SqT.of (s _ _ e)), (Fla.fla (r := r) h1 h1).1, i1, ?_⟩
    rw [if_pos rfl, i2]
    exact q _ _ _ (Xt.refl s) rfl
theorem e_tupL {r : Rl α} [Mono r] {ts : TA} {T : ∀ {γ : Type}, (List α → M γ) → M γ} (hs : EvA w ts σ (ral r) T F H) : EvC w (tTup ts σ) (fz (qTL r)) (T fun xs => M.gd (xs.length ≤ sizeLine) (.ok xs)) F H := fun F0 H0 e0 => by
  refine hs F0 H0 e0 (fun vs H Q => vs.length ≤ sizeLine ∧ ∀ p, H p = none → Q (.ref p) (upd H p (.tup vs))) (fz (qTL r)) _ fun xs vs F2 H2 e2 al => ?_
  by_cases hz : xs.length ≤ sizeLine
  · rw [M.gd_pos hz]
    refine fun Q q => ⟨by rw [Al.len al]; exact hz, fun p hp => ?_⟩
    have e3 := (Xt.refl e2.fh).newF hp (o := .tup vs)
    exact q _ _ _ e3 ⟨p, vs, rfl, upd_same, Al.mono e3.ff al⟩
  · rw [M.gd_neg hz]; trivial
/-- a sign in a text -/
theorem e_inS {m : M Nat} {n : M (List Nat)} (ha : EvC w (ta σ) (fz rC) m F H) (hb : EvC w (tb σ) (fz qS) n F H) :
    EvC w (tOp (fun x y H Q => ∃ (c : Nat) (z : Str), x = .str ⟨#[c]⟩ ∧ y = .str z ∧ Q (.bl (decide (c ∈ z.cps.toList))) H) ta tb σ) (fz rB) (m.bd fun x => n.bd fun xs => .ok (decide (x ∈ xs))) F H :=
  e_op ha hb (fun _ _ => .inl ⟨_, rfl⟩) fun {x y z v u F2 H2} hz h1 h2 s Q q => by
    cases hz
    obtain ⟨rfl, _⟩ := h2
    refine ⟨x, _, h1, rfl, q _ _ _ (Xt.refl s) ?_⟩
    show V.bl _ = V.bl _
    rw [S_cps]
theorem e_ninS {m : M Nat} {n : M (List Nat)} (ha : EvC w (ta σ) (fz rC) m F H) (hb : EvC w (tb σ) (fz qS) n F H) :
    EvC w (tOp (fun x y H Q => ∃ (c : Nat) (z : Str), x = .str ⟨#[c]⟩ ∧ y = .str z ∧ Q (.bl (!decide (c ∈ z.cps.toList))) H) ta tb σ) (fz rB) (m.bd fun x => n.bd fun xs => .ok (!decide (x ∈ xs))) F H :=
  e_op ha hb (fun _ _ => .inl ⟨_, rfl⟩) fun {x y z v u F2 H2} hz h1 h2 s Q q => by
    cases hz
    obtain ⟨rfl, _⟩ := h2
    refine ⟨x, _, h1, rfl, q _ _ _ (Xt.refl s) ?_⟩
    show V.bl _ = V.bl _
    rw [S_cps]
/-- texts by order -/
theorem e_ltS {m n : M (List Nat)} (ha : EvC w (ta σ) (fz qS) m F H) (hb : EvC w (tb σ) (fz qS) n F H) :
    EvC w (tOp (fun x y H Q => ∃ i j, x = .str i ∧ y = .str j ∧ Q (.bl (decide (i.cps.toList < j.cps.toList))) H) ta tb σ) (fz rB) (m.bd fun x => n.bd fun y => .ok (decide (x < y))) F H :=
  e_op ha hb (fun _ _ => .inl ⟨_, rfl⟩) fun {x y z v u F2 H2} hz h1 h2 s Q q => by
    cases hz
    obtain ⟨rfl, _⟩ := h1
    obtain ⟨rfl, _⟩ := h2
    refine ⟨_, _, rfl, rfl, q _ _ _ (Xt.refl s) ?_⟩
    show V.bl _ = V.bl _
    rw [S_cps, S_cps]
/-- 'A' <= c <= 'Z' -/
theorem le_one (a b : Nat) : (!decide ((S [b]).cps.toList < (S [a]).cps.toList)) = decide (a ≤ b) := by
  rw [S_cps, S_cps]
  by_cases h : a ≤ b
  · simp [List.cons_lt_cons_iff, h]
  · simp [List.cons_lt_cons_iff, h]; omega
theorem e_leC {m n : M Nat} (ha : EvC w (ta σ) (fz rC) m F H) (hb : EvC w (tb σ) (fz rC) n F H) :
    EvC w (tOp (fun x y H Q => ∃ i j, x = .str i ∧ y = .str j ∧ Q (.bl (!decide (j.cps.toList < i.cps.toList))) H) ta tb σ) (fz rB) (m.bd fun x => n.bd fun y => .ok (decide (x ≤ y))) F H :=
  e_op ha hb (fun _ _ => .inl ⟨_, rfl⟩) fun {x y z v u F2 H2} hz h1 h2 s Q q => by
    cases hz
    exact ⟨_, _, h1, h2, q _ _ _ (Xt.refl s) (congrArg V.bl (le_one x y))⟩
/-- a <= b <= c: the middle is asked once -/
def O2 {α β : Type} (r1 : Rl α) (r2 : Rl β) (r : R2) (f : α → β → Bool) : Prop := ∀ {F : Hp} {v u : V} {x : α} {y : β} {H : Hp} {Q : VK}, r1 F v x → r2 F u y → Q (.bl (f x y)) H → r v u H Q
theorem e_chain {r r' : R2} {r1 : Rl α} {r2 : Rl β} {r3 : Rl γ} [Mono r1] [Mono r2] {f : α → β → Bool} {g : β → γ → Bool} {m : M α} {n : M β} {l : M γ} (ha : EvC w (ta σ) (fz r1) m F H) (hb : EvC w (tb σ) (fz r2) n F H) (hc : EvC w (tc σ) (fz r3) l F H)
    (h1 : O2 r1 r2 r f) (h2 : O2 r2 r3 r' g) : EvC w (tChain r r' ta tb tc σ) (fz rB) (m.bd fun x => n.bd fun y => if f x y = true then l.bd fun z => .ok (g y z) else .ok false) F H := by
  refine EvC.bind (D := fun (x : V) H (Q : VK) => tb σ H fun y H2 => r x y H2 fun z H3 => ∃ k, z = .bl k ∧ (if k = true then tc σ H3 fun w' H4 => r' y w' H4 Q else Q (.bl false) H3)) (R' := fz rB) ha fun x v F1 H1 F2 H2 e1 e2 hr => ?_
  refine EvN.bind (D := fun (y : V) H (Q : VK) => r v y H fun z H3 => ∃ k, z = .bl k ∧ (if k = true then tc σ H3 fun w' H4 => r' y w' H4 Q else Q (.bl false) H3)) (R' := fz rB) (hb F2 H2 (e1.trans e2)) fun y u F3 H3 e3 hs => ?_
  have hr3 : r1 F3 v x := Mono.mono (r := r1) e3.ff hr
  have hcc := hc F3 H3 ((e1.trans e2).trans e3)
  cases hf : f x y with
  | false =>
    rw [if_neg Bool.false_ne_true]
    exact fun Q q => h1 hr3 hs ⟨_, rfl, by rw [hf]; exact iteF (q _ _ _ (Xt.refl e3.fh) rfl)⟩
  | true =>
    rw [if_pos rfl]
    cases l with
    | bad => trivial
    | exc e => exact fun o Q => h1 hr3 hs ⟨_, rfl, by rw [hf]; exact iteT (hcc o _)⟩
    | ok z => exact fun Q q => h1 hr3 hs ⟨_, rfl, by rw [hf]; exact iteT (hcc _ fun v4 F4 H4 e4 ht => h2 (Mono.mono (r := r2) e4.ff hs) ht (q _ _ _ e4 rfl))⟩
theorem e_chainP {r r' : R2} {r1 : Rl α} {r2 : Rl β} {r3 : Rl γ} [Mono r1] [Mono r2] {f : α → β → Bool} {g : β → γ → Bool} {x : α} {y : β} {z : γ} (ha : EvC w (ta σ) (fz r1) (.ok x) F H) (hb : EvC w (tb σ) (fz r2) (.ok y) F H) (hc : EvC w (tc σ) (fz r3) (.ok z) F H)
    (h1 : O2 r1 r2 r f) (h2 : O2 r2 r3 r' g) : EvC w (tChain r r' ta tb tc σ) (fz rB) (.ok (f x y && g y z)) F H := by
  have h := e_chain ha hb hc h1 h2
  have e : (M.bd (.ok x) fun x => M.bd (.ok y) fun y => if f x y = true then M.bd (.ok z) fun z => .ok (g y z) else .ok false) = .ok (f x y && g y z) := by
    show (if f x y = true then M.ok (g y z) else .ok false) = _
    cases f x y <;> rfl
  rw [e] at h; exact h
theorem o_lt : O2 rI rI (rI0 fun i j => .bl (decide (i < j))) (fun x y => decide (x < y)) := fun h1 h2 q => ⟨_, _, h1, h2, q⟩
theorem o_le : O2 rI rI (rI0 fun i j => .bl (decide (i ≤ j))) (fun x y => decide (x ≤ y)) := fun h1 h2 q => ⟨_, _, h1, h2, q⟩
theorem o_ltU : O2 rNat rNat (rI0 fun i j => .bl (decide (i < j))) (fun x y => decide (x < y)) := fun {F v u x y H Q} h1 h2 q => ⟨_, _, h1, h2, (congrArg (fun b => Q (V.bl b) H) (dec_lt x y)).mpr q⟩
theorem o_leU : O2 rNat rNat (rI0 fun i j => .bl (decide (i ≤ j))) (fun x y => decide (x ≤ y)) := fun {F v u x y H Q} h1 h2 q => ⟨_, _, h1, h2, (congrArg (fun b => Q (V.bl b) H) (dec_le x y)).mpr q⟩
theorem o_leC : O2 rC rC (fun x y H Q => ∃ i j, x = .str i ∧ y = .str j ∧ Q (.bl (!decide (j.cps.toList < i.cps.toList))) H) (fun x y => decide (x ≤ y)) := fun {F v u x y H Q} h1 h2 q => ⟨_, _, h1, h2, (congrArg (fun b => Q (V.bl b) H) (le_one x y)).mpr q⟩
/-! ### built-ins of one argument -/
theorem e_cb1 {R : R3 α} [Up R] [Fl R] {R' : R3 β} [Dn R'] {r : List V → Hp → VK → Prop} {m : M α} {f : α → M β} (ha : EvC w (ta σ) R m F H) (hf : ∀ x, (∃ y, f x = .ok y) ∨ f x = .bad)
    (op : ∀ {x y v F2 H2}, f x = .ok y → R H2 F2 H2 v x → Same F2 H2 → ∀ Q : VK, (∀ u F3 H3, Xt F2 H2 F3 H3 → R' H2 F3 H3 u y → Q u H3) → r [v] H2 Q) : EvC w (tCB r (tCons ta tNil) σ) R' (m.bd f) F H :=
  EvC.last (D := fun (v : V) H (Q : VK) => r [v] H Q) (R' := R') ha hf fun x y v F1 H1 F2 H2 hz e1 e2 hr Q q => op hz (Fl.fl hr) e2.fh Q q
theorem e_lenS {m : M (List Nat)} (ha : EvC w (ta σ) (fz qS) m F H) : EvC w (tCB (fun xs H Q => ∃ z, xs = [.str z] ∧ z.length ≤ sizeLine ∧ Q (.int z.length) H) (tCons ta tNil) σ) (fz rNat) (m.bd fun x => .ok x.length) F H :=
  e_cb1 ha (fun _ => .inl ⟨_, rfl⟩) fun hz h1 s Q q => by
    cases hz
    obtain ⟨rfl, hl⟩ := h1
    exact ⟨_, rfl, by rw [S_len]; exact hl, by rw [S_len]; exact q _ _ _ (Xt.refl s) rfl⟩
theorem e_lenL {r : Rl α} [Mono r] {m : M (List α)} (ha : EvC w (ta σ) (lb r) m F H) : EvC w (tCB (rLen K) (tCons ta tNil) σ) (fz rNat) (m.bd fun x => .ok x.length) F H :=
  e_cb1 ha (fun _ => .inl ⟨_, rfl⟩) fun hz h1 s Q q => by
    cases hz
    obtain ⟨a, vs, rfl, e, al, _⟩ := h1
    exact ⟨a, vs, rfl, .inl (SqL.of e), by rw [al.len]; exact q _ _ _ (Xt.refl s) rfl⟩
theorem e_lenD {κ : Type} [DecidableEq κ] {enc : κ → Key} {r : Rl α} [Mono r] {m : M (List (κ × α))} (ha : EvC w (ta σ) (db enc r) m F H) : EvC w (tCB (fun xs H Q => ∃ a kvs, xs = [V.ref a] ∧ H a = some (.dK kvs) ∧ Q (.int kvs.length) H) (tCons ta tNil) σ) (fz rNat) (m.bd fun x => .ok x.length) F H :=
  e_cb1 ha (fun _ => .inl ⟨_, rfl⟩) fun hz h1 s Q q => by
    cases hz
    obtain ⟨a, vs, rfl, e, al, _⟩ := h1
    exact ⟨a, vs, rfl, e, by rw [al.len]; exact q _ _ _ (Xt.refl s) rfl⟩
theorem e_all {m : M (List Bool)} (ha : EvC w (ta σ) (lb rB) m F H) : EvC w (tCB (rAll K) (tCons ta tNil) σ) (fz rB) (m.bd fun x => .ok (x.all id)) F H :=
  e_cb1 ha (fun _ => .inl ⟨_, rfl⟩) fun hz h1 s Q q => by
    cases hz
    obtain ⟨a, vs, rfl, e, al, _⟩ := h1
    exact ⟨a, _, rfl, SqL.of (by rw [e, al.bls]), q _ _ _ (Xt.refl s) rfl⟩
theorem e_any {m : M (List Bool)} (ha : EvC w (ta σ) (lb rB) m F H) : EvC w (tCB (rAny K) (tCons ta tNil) σ) (fz rB) (m.bd fun x => .ok (x.any id)) F H :=
  e_cb1 ha (fun _ => .inl ⟨_, rfl⟩) fun hz h1 s Q q => by
    cases hz
    obtain ⟨a, vs, rfl, e, al, _⟩ := h1
    exact ⟨a, _, rfl, SqL.of (by rw [e, al.bls]), q _ _ _ (Xt.refl s) rfl⟩
theorem e_sum {m : M (List Int)} (ha : EvC w (ta σ) (lb rI) m F H) : EvC w (tCB (rSum K) (tCons ta tNil) σ) (fz rI) (m.bd fun x => .ok x.sum) F H :=
  e_cb1 ha (fun _ => .inl ⟨_, rfl⟩) fun hz h1 s Q q => by
    cases hz
    obtain ⟨a, vs, rfl, e, al, _⟩ := h1
    exact ⟨a, _, rfl, SqL.of (by rw [e, al.ints]), q _ _ _ (Xt.refl s) rfl⟩
theorem e_sumU {m : M (List Nat)} (ha : EvC w (ta σ) (lb rNat) m F H) : EvC w (tCB (rSum K) (tCons ta tNil) σ) (fz rNat) (m.bd fun x => .ok x.sum) F H :=
  e_cb1 ha (fun _ => .inl ⟨_, rfl⟩) fun hz h1 s Q q => by
    cases hz
    obtain ⟨a, vs, rfl, e, al, _⟩ := h1
    exact ⟨a, _, rfl, SqL.of (by rw [e, al.nats]), q _ _ _ (Xt.refl s) (by rw [sum_ints]; rfl)⟩
theorem e_list {r : Rl α} [Mono r] {m : M (List α)} (ha : EvC w (ta σ) (lb r) m F H) : EvC w (tCB (rListOf K) (tCons ta tNil) σ) (nw r) m F H := by
  have h : EvC w (tCB (rListOf K) (tCons ta tNil) σ) (nw r) (m.bd fun x => .ok x) F H := e_cb1 ha (fun _ => .inl ⟨_, rfl⟩) fun hz h1 s Q q => by
    cases hz
    obtain ⟨a, vs, rfl, e, al, hz⟩ := h1
    exact ⟨a, vs, rfl, .inl (SqL.of e), fun p hp => let ⟨x1, x2⟩ := nw_new s hp al hz; q _ _ _ x1 x2⟩
  have e : (m.bd fun x => .ok x) = m := by cases m <;> rfl
  rw [e] at h; exact h
theorem e_int {m : M Int} (ha : EvC w (ta σ) (fz rI) m F H) : EvC w (tCB (fun xs H Q => (∃ i, xs = [.int i] ∧ Q (.int i) H) ∨ ∃ k, xs = [.bl k] ∧ Q (.int (if k then 1 else 0)) H) (tCons ta tNil) σ) (fz rI) (m.bd fun x => .ok x) F H :=
  e_cb1 ha (fun _ => .inl ⟨_, rfl⟩) fun hz h1 s Q q => by cases hz; exact .inl ⟨_, by rw [show _ = _ from h1], q _ _ _ (Xt.refl s) rfl⟩
/-! ### joined texts -/
def _root_.SF.M.join (sep : List Nat) (xs : List (List Nat)) : M (List Nat) := M.gd ((xs.map List.length).sum + xs.length * sep.length ≤ 16777216) (.ok (joinL sep xs))
theorem joinL_len (sep : List Nat) : ∀ xs : List (List Nat), (joinL sep xs).length ≤ (xs.map List.length).sum + xs.length * sep.length
  | [] => by simp [joinL]
  | [x] => by simp [joinL]
  | x :: y :: r => by
    have ih := joinL_len sep (y :: r)
    show (x ++ sep ++ joinL sep (y :: r)).length ≤ _
    rw [List.length_append, List.length_append, List.map_cons, List.sum_cons, List.length_cons, Nat.succ_mul]
    omega
theorem Al.qstrs {F : Hp} : ∀ {vs : List V} {xs : List (List Nat)}, Al qS F vs xs → vs = (xs.map S).map V.str
  | _, _, .nil => rfl
  | _, _, .cons h t => by rw [Al.qstrs t, h.1]; rfl
theorem e_join {m : M (List Nat)} {n : M (List (List Nat))} (ha : EvC w (ta σ) (fz qS) m F H) (hb : EvC w (tb σ) (lb qS) n F H) : EvC w (tM1 (rJoin K) ta tb σ) (fz qS) (m.bd fun x => n.bd fun xs => M.join x xs) F H := by
  refine EvC.bind (D := fun (x : V) H (Q : VK) => (∃ a, x = .str a) ∧ tb σ H fun y H2 => rJoin K x [y] H2 Q) (R' := fz qS) ha fun x v F1 H1 F2 H2 e1 e2 hr => ?_
  obtain ⟨rfl, hz⟩ := hr
  have key : EvN w (fun H (Q : VK) => tb σ H fun y H2 => rJoin K (.str (S x)) [y] H2 Q) (fz qS) (n.bd fun xs => M.join x xs) F2 H2 := by
    refine EvN.bind (D := fun (y : V) H (Q : VK) => rJoin K (.str (S x)) [y] H Q) (hb F2 H2 (e1.trans e2)) fun xs u F3 H3 e3 hs => ?_
    by_cases hj : (xs.map List.length).sum + xs.length * x.length ≤ 16777216
    · unfold M.join
      rw [M.gd_pos hj]
      obtain ⟨a, vs, rfl, e, al, _⟩ := hs
      refine fun Q q => ⟨_, a, xs.map S, rfl, rfl, .inl (SqL.of (by rw [e, al.qstrs])), by rw [map_len, List.length_map, S_len]; exact hj, by rw [join_S]; exact q _ _ _ (Xt.refl e3.fh) ⟨rfl, Nat.le_trans (joinL_len x xs) (by rw [sl64]; exact hj)⟩⟩
    · unfold M.join
      rw [M.gd_neg hj]; trivial
  show EvN w _ _ (n.bd fun xs => M.join x xs) F2 H2
  cases hn : (n.bd fun xs => M.join x xs) with
  | bad => trivial
  | exc e => rw [hn] at key; exact fun o Q => ⟨⟨_, rfl⟩, key o _⟩
  | ok y => rw [hn] at key; exact fun Q q => ⟨⟨_, rfl⟩, key Q q⟩
/-! ### fields, calls -/
theorem e_fld {R : Rl α} {r : Rl β} {C : Addr} {f : Str} {g : α → β} {m : M α} (ha : EvC w (ta σ) (fz R) m F H) (hc : Cls K C) (hn : NoAttr K C f)
    (hk : ∀ F v x, R F v x → ∃ a dx fs u, v = .ref a ∧ F a = some (.ins C dx fs) ∧ fs.lookup f = some u ∧ r F u (g x)) : EvC w (tFld K ta f σ) (fz r) (m.bd fun x => .ok (g x)) F H :=
  EvC.last (D := fun (v : V) H (Q : VK) => ∃ a C dx fs u, v = .ref a ∧ H a = some (.ins C dx fs) ∧ Cls K C ∧ NoAttr K C f ∧ fs.lookup f = some u ∧ Q u H) (R' := fz r) ha (fun _ => .inl ⟨_, rfl⟩) fun x y v F1 H1 F2 H2 hz e1 e2 hr Q q => by
    cases hz
    obtain ⟨a, dx, fs, u, rfl, h1, h2, h3⟩ := hk _ _ _ hr
    exact ⟨a, C, dx, fs, u, rfl, e2.fh _ _ h1, hc, hn, h2, q _ _ _ (Xt.refl e2.fh) h3⟩
/-- the promise of a def: its mirror f -/
def Pm {τ : Type} (on : Prop) (cl : Nat → Addr) (Rs : Hp → Hp → Hp → List V → τ → Prop) (rr : R3 γ) (f : τ → M γ) : Sp := fun vs H Q E => ∃ F x, Same F H ∧ Rs H F H vs x ∧ Po ⟨⟨on, E, cl⟩, Q, rr, F, H⟩ (f x)
/-- a call, neither side lets out an error -/
theorem e_call {τ : Type} {Rs : Hp → Hp → Hp → List V → τ → Prop} {rr : R3 γ} [Dn rr] {f : τ → M γ} {cl : Nat → Addr} {E' : XK} {ts : TA} {T : ∀ {γ' : Type}, (τ → M γ') → M γ'} (hw : ¬ w.on) (hs : EvA w ts σ Rs T F H) :
    EvC w (tCall (Pm False cl Rs rr f) [] E' ts σ) rr (T f) F H := fun F0 H0 e0 => by
  refine hs F0 H0 e0 (fun vs H Q => Pm False cl Rs rr f (vs ++ []) H Q E') rr f fun x vs F2 H2 e2 hr => ?_
  cases hf : f x with
  | bad => trivial
  | exc e => exact fun o => absurd o.1 hw
  | ok y =>
    refine fun Q q => ⟨F2, x, e2.fh, by rw [List.append_nil]; exact hr, ?_⟩
    rw [hf]
    exact fun v F' H' e h => q v F' H' e h
/-- .. the one that calls may let out what the called one lets out -/
theorem e_callX {τ : Type} {Rs : Hp → Hp → Hp → List V → τ → Prop} {rr : R3 γ} [Dn rr] {f : τ → M γ} {ts : TA} {T : ∀ {γ' : Type}, (τ → M γ') → M γ'} (hw : w.on) (hs : EvA w ts σ Rs T F H) :
    EvC w (tCall (Pm True w.cl Rs rr f) [] w.E ts σ) rr (T f) F H := fun F0 H0 e0 => by
  refine hs F0 H0 e0 (fun vs H Q => Pm True w.cl Rs rr f (vs ++ []) H Q w.E) rr f fun x vs F2 H2 e2 hr => ?_
  cases hf : f x with
  | bad => trivial
  | exc e =>
    refine fun o Q => ⟨F2, x, e2.fh, by rw [List.append_nil]; exact hr, ?_⟩
    rw [hf]
    exact ⟨trivial, o.2⟩
  | ok y =>
    refine fun Q q => ⟨F2, x, e2.fh, by rw [List.append_nil]; exact hr, ?_⟩
    rw [hf]
    exact fun v F' H' e h => q v F' H' e h
theorem e_meth {τ : Type} {C : Addr} {mn : Str} {R : Rl α} [Mono R] {Rs : Hp → Hp → Hp → List V → τ → Prop} {rr : R3 γ} [Dn rr] {f : α × τ → M γ} {cl : Nat → Addr} {E' : XK} {ts : TA} {m : M α} {T : ∀ {γ' : Type}, (τ → M γ') → M γ'} (hw : ¬ w.on)
    (ha : EvC w (ta σ) (fz R) m F H) (hk : ∀ F v x, R F v x → ∃ a dx fs, v = .ref a ∧ F a = some (.ins C dx fs) ∧ fs.lookup mn = none) (hs : EvA w ts σ Rs T F H) :
    EvC w (tMeth C mn (Pm False cl (rac (fz R) Rs) rr f) [] E' ta ts σ) rr (m.bd fun x => T fun y => f (x, y)) F H := by
  refine EvC.bind (D := fun (x : V) H (Q : VK) => ∃ a dx fs, x = .ref a ∧ H a = some (.ins C dx fs) ∧ fs.lookup mn = none ∧ ts σ H fun vs H2 => Pm False cl (rac (fz R) Rs) rr f (x :: (vs ++ [])) H2 Q E') (R' := rr) ha fun x v F1 H1 F2 H2 e1 e2 hr => ?_
  obtain ⟨a, dx, fs, ev, h1, h2⟩ := hk _ _ _ hr
  have key : EvN w (fun H (Q : VK) => ts σ H fun vs H2 => Pm False cl (rac (fz R) Rs) rr f (v :: (vs ++ [])) H2 Q E') rr (T fun y => f (x, y)) F2 H2 := by
    refine hs F2 H2 (e1.trans e2) (fun vs H (Q : VK) => Pm False cl (rac (fz R) Rs) rr f (v :: (vs ++ [])) H Q E') rr (fun y => f (x, y)) fun y vs F3 H3 e3 hrs => ?_
    cases hf : f (x, y) with
    | bad => trivial
    | exc e => exact fun o => absurd o.1 hw
    | ok z =>
      refine fun Q q => ⟨F3, (x, y), e3.fh, by rw [List.append_nil]; exact ⟨v, vs, rfl, Mono.mono (r := R) e3.ff hr, hrs⟩, ?_⟩
      rw [hf]
      exact fun v F' H' e h => q v F' H' e h
  cases hn : (T fun y => f (x, y)) with
  | bad => trivial
  | exc e => exact fun o => absurd o.1 hw
  | ok y => rw [hn] at key; exact fun Q q => ⟨a, dx, fs, ev, e2.fh _ _ h1, h2, key Q q⟩
theorem e_prop {C : Addr} {R : Rl α} {rr : R3 γ} [Dn rr] {f : α × Unit → M γ} {cl : Nat → Addr} {E' : XK} {m : M α} (hw : ¬ w.on)
    (ha : EvC w (ta σ) (fz R) m F H) (hk : ∀ F v x, R F v x → ∃ a dx fs, v = .ref a ∧ F a = some (.ins C dx fs)) :
    EvC w (tProp C (Pm False cl (rac (fz R) ran) rr f) [] E' ta σ) rr (m.bd fun x => f (x, ())) F H := by
  refine EvC.bind (D := fun (x : V) H (Q : VK) => ∃ a dx fs, x = .ref a ∧ H a = some (.ins C dx fs) ∧ Pm False cl (rac (fz R) ran) rr f (.ref a :: []) H Q E') (R' := rr) ha fun x v F1 H1 F2 H2 e1 e2 hr => ?_
  obtain ⟨a, dx, fs, rfl, h1⟩ := hk _ _ _ hr
  cases hf : f (x, ()) with
  | bad => trivial
  | exc e => exact fun o => absurd o.1 hw
  | ok z =>
    refine fun Q q => ⟨a, dx, fs, rfl, e2.fh _ _ h1, F2, (x, ()), e2.fh, ⟨_, _, rfl, hr, rfl⟩, ?_⟩
    rw [hf]
    exact fun v F' H' e h => q v F' H' e h
/-- the promise of an __init__ whose instance is frozen when it is done -/
def Pi {τ : Type} (on : Prop) (cl : Nat → Addr) (C : Addr) (Rs : Hp → Hp → Hp → List V → τ → Prop) (r : Rl γ) (f : τ → M γ) : Sp := fun vs H Q E => ∃ F H2 p dx us x, vs = .ref p :: us ∧ H2 p = none ∧ H = upd H2 p (.ins C dx []) ∧ Same F H2 ∧ Rs H2 F H2 us x ∧
  match f x with
  | .ok y => ∀ F' H', Xt F H2 F' H' → r F' (.ref p) y → Q .non H'
  | .exc e => Out ⟨on, E, cl⟩ F H2 e
  | .bad => False
theorem e_make {τ : Type} {C : Addr} {Rs : Hp → Hp → Hp → List V → τ → Prop} (hup : Up Rs) (hfl : Fl Rs) {r : Rl γ} {f : τ → M γ} {cl : Nat → Addr} {E' : XK} {ts : TA} {T : ∀ {γ' : Type}, (τ → M γ') → M γ'} (hw : ¬ w.on) (hs : EvA w ts σ Rs T F H) :
    EvC w (tMake C (Pi False cl C Rs r f) [] E' ts σ) (fz r) (T f) F H := fun F0 H0 e0 => by
  refine hs F0 H0 e0 (fun vs H Q => ∀ x dx, H x = none → H dx = none → dx ≠ x → Pi False cl C Rs r f (.ref x :: (vs ++ [])) (upd (upd H dx (.own x)) x (.ins C dx [])) (fun v H2 => v = .non ∧ Q (.ref x) H2) E') (fz r) f fun x vs F2 H2 e2 hr => ?_
  cases hf : f x with
  | bad => trivial
  | exc e => exact fun o => absurd o.1 hw
  | ok y =>
    intro Q q p dx hp hdx hne
    have e3 := (Xt.refl e2.fh).newM hdx (o := .own p)
    refine ⟨F2, upd H2 dx (.own p), p, dx, vs, x, by rw [List.append_nil], by rw [upd_ne hne.symm]; exact hp, rfl, e3.fh, hfl.fl (hup.up e3 hr), ?_⟩
    rw [hf]
    exact fun F' H' e h => ⟨rfl, q _ _ _ (e3.trans e) h⟩
instance {τ : Type} {R : R3 α} {Rs : Hp → Hp → Hp → List V → τ → Prop} [Up R] [Up Rs] : Up (rac R Rs) := ⟨fun e ⟨v, us, e1, h1, h2⟩ => ⟨v, us, e1, Up.up e h1, Up.up e h2⟩⟩
instance {τ : Type} {R : R3 α} {Rs : Hp → Hp → Hp → List V → τ → Prop} [Fl R] [Fl Rs] : Fl (rac R Rs) := ⟨fun ⟨v, us, e1, h1, h2⟩ => ⟨v, us, e1, Fl.fl h1, Fl.fl h2⟩⟩
instance : Up ran := ⟨fun _ h => h⟩
instance : Fl ran := ⟨fun h => h⟩
/-! ### what is walked -/
structure Wk (J : It) (r : Rl α) (xs : List α) (F H : Hp) : Prop where
  ex : ∃ (G : Hp → Prop) (Y : Nat → Hp → V → Hp → Prop), Walk J xs.length G Y ∧ (∀ F' H', Xt F H F' H' → G H') ∧
    ∀ i H' v H'' F', i < xs.length → Same F F' → Same F' H' → Y i H' v H'' → ∃ F'' x, xs[i]? = some x ∧ Xt F' H' F'' H'' ∧ r F'' v x
  sz : xs.length ≤ sizeLine
/-- .. even where the heap changes, so long as what is frozen stays -/
structure WkF (J : It) (r : Rl α) (xs : List α) (F : Hp) : Prop where
  ex : ∃ (G : Hp → Prop) (Y : Nat → Hp → V → Hp → Prop), Walk J xs.length G Y ∧ (∀ F' H', Same F F' → Same F' H' → G H') ∧
    ∀ i H' v H'' F', i < xs.length → Same F F' → Same F' H' → Y i H' v H'' → ∃ F'' x, xs[i]? = some x ∧ Xt F' H' F'' H'' ∧ r F'' v x
  sz : xs.length ≤ sizeLine
theorem WkF.wk {J : It} {r : Rl α} {xs : List α} {F H : Hp} (h : WkF J r xs F) : Wk J r xs F H := by
  obtain ⟨G, Y, h1, h2, h3⟩ := h.ex
  exact ⟨⟨G, Y, h1, fun F' H' e => h2 F' H' e.ff e.fh, h3⟩, h.sz⟩
def iw (r : Rl α) : Hp → Hp → Hp → It → List α → Prop := fun _ F H J xs => Wk J r xs F H
def iwF (r : Rl α) : Hp → Hp → Hp → It → List α → Prop := fun _ F _ J xs => WkF J r xs F
instance {r : Rl α} : Dn (iw r) := ⟨fun _ h => h⟩
instance {r : Rl α} : Dn (iwF r) := ⟨fun _ h => h⟩
theorem i_w {wi : TI} {r : Rl α} {m : M (List α)} (h : EvC w (wi σ) (iwF r) m F H) : EvC w (wi σ) (iw r) m F H := by
  intro F1 H1 e1
  have h1 := h F1 H1 e1
  cases m with
  | bad => trivial
  | exc e => exact h1
  | ok x => exact fun Q q => h1 Q fun v F2 H2 e2 hr => q v F2 H2 e2 hr.wk
theorem wk_list {r : Rl α} {F H : Hp} {a : Addr} {vs : List V} {xs : List α} [Mono r] (e : H a = some (.lst vs)) (al : Al r F vs xs) (hz : xs.length ≤ sizeLine) : Wk (Itl K a) r xs F H :=
  ⟨⟨fun H => SqL K H a vs, YAt vs, by rw [← al.len]; exact walk_list (K := K) (a := a) (xs := vs), fun F' H' x => SqL.of (x.hh _ _ e), fun i H' v H'' F' _ s1 s2 ⟨e1, e2⟩ => by
    subst e1
    obtain ⟨x, hx, hr⟩ := al.get e2
    exact ⟨F', x, hx, Xt.refl s2, Mono.mono (r := r) s1 hr⟩⟩, hz⟩
theorem wkF_list {r : Rl α} {F : Hp} {a : Addr} {vs : List V} {xs : List α} [Mono r] (e : F a = some (.lst vs)) (al : Al r F vs xs) (hz : xs.length ≤ sizeLine) : WkF (Itl K a) r xs F :=
  ⟨⟨fun H => SqL K H a vs, YAt vs, by rw [← al.len]; exact walk_list (K := K) (a := a) (xs := vs), fun F' H' s1 s2 => SqL.of (s2 _ _ (s1 _ _ e)), fun i H' v H'' F' _ s1 s2 ⟨e1, e2⟩ => by
    subst e1
    obtain ⟨x, hx, hr⟩ := al.get e2
    exact ⟨F', x, hx, Xt.refl s2, Mono.mono (r := r) s1 hr⟩⟩, hz⟩
theorem i_list {r : Rl α} [Mono r] {m : M (List α)} (ha : EvC w (ta σ) (lb r) m F H) : EvC w (iList K ta σ) (iw r) m F H := by
  have h : EvC w (iList K ta σ) (iw r) (m.bd fun x => .ok x) F H := EvC.last (D := fun (v : V) H (R : It → Hp → Prop) => ∃ a, v = .ref a ∧ (∃ xs, SqL K H a xs) ∧ R (Itl K a) H) (R' := iw r) ha (fun _ => .inl ⟨_, rfl⟩) fun x y v F1 H1 F2 H2 hz e1 e2 hr Q q => by
    cases hz
    obtain ⟨a, vs, rfl, e, al, hz⟩ := hr
    exact ⟨a, rfl, ⟨vs, SqL.of e⟩, q _ _ _ (Xt.refl e2.fh) (wk_list e al hz)⟩
  have e : (m.bd fun x => .ok x) = m := by cases m <;> rfl
  rw [e] at h; exact h
theorem i_listF {r : Rl α} [Mono r] {m : M (List α)} (ha : EvC w (ta σ) (fz (qL r)) m F H) : EvC w (iList K ta σ) (iwF r) m F H := by
  have h : EvC w (iList K ta σ) (iwF r) (m.bd fun x => .ok x) F H := EvC.last (D := fun (v : V) H (R : It → Hp → Prop) => ∃ a, v = .ref a ∧ (∃ xs, SqL K H a xs) ∧ R (Itl K a) H) (R' := iwF r) ha (fun _ => .inl ⟨_, rfl⟩) fun x y v F1 H1 F2 H2 hz e1 e2 hr Q q => by
    cases hz
    obtain ⟨a, vs, rfl, e, al, hz⟩ := hr
    exact ⟨a, rfl, ⟨vs, SqL.of (e2.fh _ _ e)⟩, q _ _ _ (Xt.refl e2.fh) (wkF_list e al hz)⟩
  have e : (m.bd fun x => .ok x) = m := by cases m <;> rfl
  rw [e] at h; exact h
theorem i_str {m : M (List Nat)} (ha : EvC w (ta σ) (fz qS) m F H) : EvC w (iStr ta σ) (iwF rC) m F H := by
  have h : EvC w (iStr ta σ) (iwF rC) (m.bd fun x => .ok x) F H := EvC.last (D := fun (v : V) H (R : It → Hp → Prop) => ∃ x, v = .str x ∧ R (Its x) H) (R' := iwF rC) ha (fun _ => .inl ⟨_, rfl⟩) fun x y v F1 H1 F2 H2 hz e1 e2 hr Q q => by
    cases hz
    obtain ⟨rfl, hl⟩ := hr
    refine ⟨_, rfl, q _ _ _ (Xt.refl e2.fh) ⟨⟨fun _ => True, fun i H v H' => H' = H ∧ ∃ c, (S x).cps[i]? = some c ∧ v = .str ⟨#[c]⟩, by rw [← S_size]; exact walk_str (z := S x), fun _ _ _ _ => trivial, fun i H' v H'' F' _ s1 s2 ⟨e1, c, hc, ev⟩ => ?_⟩, hl⟩⟩
    subst e1 ev
    exact ⟨F', c, S_get hc, Xt.refl s2, rfl⟩
  have e : (m.bd fun x => .ok x) = m := by cases m <;> rfl
  rw [e] at h; exact h
/-- range(n), range(a, b) of natural numbers -/
theorem wkF_rng {lo n : Nat} {F : Hp} (hl : n ≤ sizeLine) : WkF (Itr (lo : Int) n) rNat (List.range' lo n) F :=
  ⟨⟨fun _ => True, YFn fun i => .int ((lo : Int) + i), by rw [List.length_range']; exact walk_range, fun _ _ _ _ => trivial, fun i H' u H'' F' hi s1 s2 ⟨e1, ev⟩ => by
    subst e1 ev
    rw [List.length_range'] at hi
    exact ⟨F', lo + i, by rw [List.getElem?_range' hi]; simp, Xt.refl s2, by show V.int _ = V.int _; congr 1⟩⟩, by rw [List.length_range']; exact hl⟩
theorem i_rng1 {m : M Nat} (ha : EvC w (ta σ) (fz rNat) m F H) : EvC w (iRng1 (tCons ta tNil) σ) (iwF rNat) (m.bd fun n => M.gd (n ≤ sizeLine) (.ok (List.range' 0 n))) F H :=
  EvC.last (D := fun (v : V) H (R : It → Hp → Prop) => ∃ j : Int, [v] = [.int j] ∧ -(2 ^ 62) ≤ j ∧ j < 2 ^ 62 ∧ R (Itr 0 j.toNat) H) (R' := iwF rNat) ha (fun _ => gd_or) fun x y v F1 H1 F2 H2 hz e1 e2 hr Q q => by
    obtain ⟨hl, rfl⟩ := gd_ok hz
    have hl' := hl
    rw [sl64] at hl'
    refine ⟨_, by rw [show v = _ from hr], by omega, by omega, q _ _ _ (Xt.refl e2.fh) ?_⟩
    rw [Int.toNat_natCast]
    exact wkF_rng (lo := 0) hl
theorem i_rng2 {m n : M Nat} (ha : EvC w (ta σ) (fz rNat) m F H) (hb : EvC w (tb σ) (fz rNat) n F H) : EvC w (iRng2 (tCons ta (tCons tb tNil)) σ) (iwF rNat) (m.bd fun a => n.bd fun b => M.gd (a ≤ sizeLine ∧ b ≤ sizeLine) (.ok (List.range' a (b - a)))) F H := by
  refine EvC.bind (D := fun (v : V) H (R : It → Hp → Prop) => tb σ H fun u H2 => ∃ i j : Int, [v, u] = [.int i, .int j] ∧ (-(2 ^ 62) ≤ i ∧ i < 2 ^ 62 ∧ -(2 ^ 62) ≤ j ∧ j < 2 ^ 62) ∧ R (Itr i (j - i).toNat) H2) (R' := iwF rNat) ha fun x v F1 H1 F2 H2 e1 e2 hr => ?_
  refine EvC.last (D := fun (u : V) H (R : It → Hp → Prop) => ∃ i j : Int, [v, u] = [.int i, .int j] ∧ (-(2 ^ 62) ≤ i ∧ i < 2 ^ 62 ∧ -(2 ^ 62) ≤ j ∧ j < 2 ^ 62) ∧ R (Itr i (j - i).toNat) H) (R' := iwF rNat) (hb.up (e1.trans e2)) (fun _ => gd_or) (fun y z u F3 H3 F4 H4 hz e3 e4 hs Q q => ?_) F2 H2 (Xt.refl e2.fh)
  obtain ⟨⟨hl, hl2⟩, rfl⟩ := gd_ok hz
  have hl' := hl
  have hl2' := hl2
  rw [sl64] at hl' hl2'
  refine ⟨_, _, by rw [show v = _ from hr, show u = _ from hs], ⟨by omega, by omega, by omega, by omega⟩, q _ _ _ (Xt.refl e4.fh) ?_⟩
  rw [show ((y : Int) - (x : Int)).toNat = y - x by omega]
  exact wkF_rng (lo := x) (by omega)
/-- pairs of the places and the items -/
def zipIx {α : Type} (xs : List α) : List (Nat × α) := xs.zipIdx.map fun p => (p.2, p.1)
theorem zipIx_len {α : Type} (xs : List α) : (zipIx xs).length = xs.length := by simp [zipIx]
theorem zipIx_get {α : Type} {xs : List α} {i : Nat} {x : α} (h : xs[i]? = some x) : (zipIx xs)[i]? = some (i, x) := by
  unfold zipIx
  rw [List.getElem?_map, List.getElem?_zipIdx, h]
  simp
theorem i_enum {r : Rl α} [Mono r] {m : M (List α)} (ha : EvC w (ta σ) (fz (qL r)) m F H) : EvC w (iEnum K (tCons ta tNil) σ) (iwF (rP rNat r)) (m.bd fun xs => .ok (zipIx xs)) F H :=
  EvC.last (D := fun (v : V) H (R : It → Hp → Prop) => ∃ a xs, [v] = [.ref a] ∧ SqL K H a xs ∧ R (Ite K a) H) (R' := iwF (rP rNat r)) ha (fun _ => .inl ⟨_, rfl⟩) fun x y v F1 H1 F2 H2 hz e1 e2 hr Q q => by
    cases hz
    obtain ⟨a, vs, rfl, e, al, hz⟩ := hr
    refine ⟨a, vs, rfl, SqL.of (e2.fh _ _ e), q _ _ _ (Xt.refl e2.fh) ⟨⟨fun H => SqL K H a vs, YPair (fun i => some (.int (i : Nat))) (fun i => vs[i]?), by rw [zipIx_len, ← al.len]; exact walk_enum, fun F' H' s1 s2 => SqL.of (s2 _ _ (s1 _ _ e)), fun i H' v H'' F' _ s1 s2 hy => ?_⟩, by rw [zipIx_len]; exact hz⟩⟩
    obtain ⟨T, u1, u2, rfl, hT, rfl, h1, h2⟩ := hy
    cases h1
    obtain ⟨x1, hx, hr⟩ := al.get h2
    have e3 := (Xt.refl s2).newF hT (o := .tup [.int (i : Nat), u2])
    exact ⟨_, _, zipIx_get hx, e3, T, _, u2, rfl, upd_same, rfl, Mono.mono (r := r) (s1.trans e3.ff) hr⟩
/-! ### comprehensions -/
theorem lc_step {p : α → M Bool} {f : α → M β} {x : α} {r : List α} : M.lc p f (x :: r) = (p x).nox.bd fun c => if c = true then (f x).nox.bd fun y => (M.lc p f r).bd fun ys => .ok (y :: ys) else M.lc p f r := rfl
theorem lc_not_exc {p : α → M Bool} {f : α → M β} : ∀ (xs : List α) (e : Ex), M.lc p f xs ≠ .exc e
  | [], e => by intro h; cases h
  | x :: r, e => by
    rw [lc_step]
    cases p x with
    | bad => intro h; cases h
    | exc e => intro h; cases h
    | ok c =>
      show (if c = true then _ else _) ≠ _
      cases c with
      | false => rw [if_neg Bool.false_ne_true]; exact lc_not_exc r e
      | true =>
        rw [if_pos rfl]
        cases f x with
        | bad => intro h; cases h
        | exc e => intro h; cases h
        | ok y =>
          show (M.lc p f r).bd _ ≠ _
          cases h : M.lc p f r with
          | bad => intro h; cases h
          | exc e' => exact absurd h (lc_not_exc r e')
          | ok ys => intro h; cases h
theorem e_lc {wi : TI} {g : TG} {tt : TT} {te : TE} {vs : List Nat} {r : Rl α} {r' : Rl β} [Mono r'] {m : M (List α)} {p : α → M Bool} {f : α → M β} {w' : Xw} (hi : EvC w (wi σ) (iw r) m F H) (Tg : Hp → α → L2.St → Prop)
    (hg : ∀ {x v F4 H4} (Q : L2.St → Hp → Prop), Same F4 H4 → r F4 v x → (∀ σ2, wipe σ2 vs = wipe σ vs → Tg F4 x σ2 → Q σ2 H4) → g v (wipe σ vs) H4 Q)
    (hp : ∀ x σ2 F4 H4, Xt F H F4 H4 → Tg F4 x σ2 → EvC w' (tt σ2) teq (p x) F4 H4)
    (hf : ∀ x σ2 F4 H4, Xt F H F4 H4 → Tg F4 x σ2 → EvC w' (te σ2) (fz r') (f x) F4 H4) : EvC w (tLc wi g tt te vs σ) (nw r') (m.bd fun xs => M.lc p f xs) F H := by
  refine EvC.bind (D := fun J H1 (Q : VK) => ∀ D, H1 D = none → ∃ W : Nat → Nat → Hp → Prop, (∃ m, W 0 m (upd H1 D (.lst []))) ∧ ∀ i m H, W i m H →
    (J.stop i H ∧ Q (.ref D) H) ∨ (J.go i H ∧ ∃ Nx : Hp → Prop, (∀ H', Nx H' → ∃ m', m' < m ∧ W (i + 1) m' H') ∧ ∀ x H', J.yld i H x H' → g x (wipe σ vs) H' fun σ2 H2 => wipe σ2 vs = wipe σ vs ∧ tt σ2 H2 fun b H3 =>
      if b = true then te σ2 H3 fun y H4 => ∃ acc, H4 D = some (.lst acc) ∧ acc.length < sizeLine ∧ Nx (upd H4 D (.lst (acc ++ [y]))) else Nx H3)) (R' := nw r') hi fun xs J F1 H1 F2 H2 e1 e2 hw => ?_
  obtain ⟨⟨G, Y, wk, hG, hY⟩, hz⟩ := hw
  have e12 := e1.trans e2
  cases hm : M.lc p f xs with
  | bad => trivial
  | exc e => exact absurd hm (lc_not_exc xs e)
  | ok zs =>
    intro Q q D hD
    refine lc_it wk (fun i H' => ∃ F' ws ys, Xt F2 H2 F' H' ∧ F' D = none ∧ H' D = some (.lst ws) ∧ Al r' F' ws ys ∧ ys.length ≤ i ∧ ∃ rs, M.lc p f (xs.drop i) = .ok rs ∧ zs = ys ++ rs) ?_ (fun i H' _ h => ?_) ?_ ?_
    · exact ⟨F2, [], [], (Xt.refl e2.fh).newM hD, e2.fh.free hD, upd_same, .nil, Nat.le_refl _, zs, hm, rfl⟩
    · obtain ⟨F', ws, ys, e, _⟩ := h
      exact hG F' H' e
    · rintro i v H4 H5 hi ⟨F4, ws, ys, e4, f4, hD4, al4, hl4, rs, hrs, ez⟩ hy
      obtain ⟨F5, x, hx, e5, hr⟩ := hY i H4 v H5 F4 hi e4.ff e4.fh hy
      have f5 : F5 D = none := e5.nf D (by rw [hD4]; trivial) f4
      have hD5 := e5.hh _ _ hD4
      have hdrop : xs.drop i = x :: xs.drop (i + 1) := by
        rw [List.drop_eq_getElem_cons hi]
        congr 1
        rw [List.getElem?_eq_getElem hi] at hx
        exact Option.some.inj hx
      rw [hdrop, lc_step] at hrs
      refine hg _ e5.fh hr fun σ2 hw2 ht => ⟨hw2, ?_⟩
      have hp1 := hp x σ2 F5 H5 ((e12.trans e4).trans e5) ht F5 H5 (Xt.refl e5.fh)
      have hf1 := hf x σ2 F5 H5 ((e12.trans e4).trans e5) ht
      cases hpx : p x with
      | bad => rw [hpx] at hrs; cases hrs
      | exc e => rw [hpx] at hrs; cases hrs
      | ok c =>
        rw [hpx] at hrs hp1
        refine hp1 _ fun b F6 H6 e6 hb => ?_
        have hb : b = c := hb
        subst hb
        have hrs : (if b = true then (f x).nox.bd fun y => (M.lc p f (xs.drop (i + 1))).bd fun ys => .ok (y :: ys) else M.lc p f (xs.drop (i + 1))) = .ok rs := hrs
        have f6 : F6 D = none := e6.nf D (by rw [hD5]; trivial) f5
        have hD6 := e6.hh _ _ hD5
        cases b with
        | false =>
          rw [if_neg Bool.false_ne_true] at hrs
          exact iteF ⟨F6, ws, ys, (e4.trans e5).trans e6, f6, hD6, al4.mono (e5.ff.trans e6.ff), by omega, rs, hrs, ez⟩
        | true =>
          rw [if_pos rfl] at hrs
          have hf2 := hf1 F6 H6 e6
          cases hfx : f x with
          | bad => rw [hfx] at hrs; cases hrs
          | exc e => rw [hfx] at hrs; cases hrs
          | ok y =>
            rw [hfx] at hrs hf2
            have hrs : ((M.lc p f (xs.drop (i + 1))).bd fun ys => .ok (y :: ys)) = .ok rs := hrs
            cases hl : M.lc p f (xs.drop (i + 1)) with
            | bad => rw [hl] at hrs; cases hrs
            | exc e => rw [hl] at hrs; cases hrs
            | ok ts =>
              rw [hl] at hrs
              have hrs : M.ok (y :: ts) = .ok rs := hrs
              injection hrs with hrs
              refine iteT (hf2 _ fun u F7 H7 e7 hu => ?_)
              have f7 : F7 D = none := e7.nf D (by rw [hD6]; trivial) f6
              have hD7 := e7.hh _ _ hD6
              have e47 := ((e4.trans e5).trans e6).trans e7
              refine ⟨ws, hD7, by rw [al4.len]; omega, F7, ws ++ [u], ys ++ [y], e47.set hD f7, f7, upd_same, (al4.mono ((e5.ff.trans e6.ff).trans e7.ff)).snoc hu, by rw [List.length_append, List.length_singleton]; omega, ts, rfl, ?_⟩
              rw [ez, ← hrs, List.append_assoc]; rfl
    · rintro H' ⟨F', ws, ys, e, fD, hD', al, hl, rs, hrs, ez⟩
      rw [List.drop_length] at hrs
      injection hrs with hrs
      subst hrs
      rw [List.append_nil] at ez
      subst ez
      exact q _ _ _ e ⟨D, ws, rfl, hD, fD, hD', al, by omega⟩
theorem t_yes : EvC w (tYes σ) teq (.ok true) F H := fun F1 H1 e Q q => q _ _ _ (Xt.refl e.fh) rfl
end
end SF
namespace SF
open PySem PySem.Spec PyProof.Rows L2
def M.snoc {α : Type} (xs : List α) (x : α) : M (List α) := M.gd (xs.length < sizeLine) (.ok (xs ++ [x]))
def M.ins {α : Type} (xs : List α) (i : Nat) (x : α) : M (List α) := M.gd (xs.length < sizeLine ∧ i ≤ sizeLine) (.ok (xs.take i ++ [x] ++ xs.drop i))
def M.put {κ α : Type} [DecidableEq κ] (m : List (κ × α)) (k : κ) (x : α) : M (List (κ × α)) := M.gd (m.length < sizeLine) (.ok (aPut m k x))
def M.set {α : Type} (xs : List α) (i : Nat) (x : α) : M (List α) := M.gd (i < xs.length) (.ok (xs.set i x))
section
variable {β : Type} {c : Cxt β} {σ : L2.St} {F H : Hp} {K : PySem.W.Frag} {α γ : Type} {te tl : TE} {u : L2.TS} {D : Ends}
/-! ### an if -/
theorem Po.bd {m : M α} {k : α → M β} (h : Po c (m.bd k)) : (∃ x, m = .ok x ∧ Po c (k x)) ∨ ∃ e, m = .exc e ∧ Out c.w c.F0 c.H0 e := by
  cases m with
  | ok x => exact .inl ⟨x, rfl, h⟩
  | exc e => exact .inr ⟨e, rfl, h⟩
  | bad => exact h.elim
theorem Po.gd {p : Prop} [Decidable p] {m : M β} (h : Po c (M.gd p m)) : p ∧ Po c m := by
  unfold M.gd at h
  split at h
  · rename_i q; exact ⟨q, h⟩
  · exact h.elim
theorem sq_if {tt : TT} {t t' : L2.TS} {m : M Bool} {A B : M β} (ev : EvC c.w (tt σ) teq m F H) (e0 : Xt c.F0 c.H0 F H) (h : Po c (M.ite m A B))
    (ht : ∀ F1 H1, Xt F H F1 H1 → Po c A → t { D with nx := u D } σ H1) (hf : ∀ F1 H1, Xt F H F1 H1 → Po c B → t' { D with nx := u D } σ H1) : tSeq (tIfS tt t t') u D σ H := by
  refine EvC.run (C := tt σ) ev e0 h fun x b F1 H1 e1 hb hk => ?_
  have hb : b = x := hb
  subst hb
  cases b with
  | true => exact iteT (ht F1 H1 e1 hk)
  | false => exact iteF (hf F1 H1 e1 hk)
/-- two ways that join -/
theorem sq_ifj {S : Type} {tt : TT} {t t' : L2.TS} {m : M Bool} {J : S → M β} {A B : (S → M β) → M β} (ev : EvC c.w (tt σ) teq m F H) (e0 : Xt c.F0 c.H0 F H) (h : Po c (M.jn J fun j => M.ite m (A j) (B j))) (N : S → Hp → L2.St → Hp → Prop)
    (ht : ∀ (j : S → M β) (nx : L2.St → Hp → Prop) F1 H1, (∀ s F' σ' H', N s F' σ' H' → Po c (j s) → nx σ' H') → Xt F H F1 H1 → Po c (A j) → t { D with nx := nx } σ H1)
    (hf : ∀ (j : S → M β) (nx : L2.St → Hp → Prop) F1 H1, (∀ s F' σ' H', N s F' σ' H' → Po c (j s) → nx σ' H') → Xt F H F1 H1 → Po c (B j) → t' { D with nx := nx } σ H1)
    (hd : ∀ s F' σ' H', N s F' σ' H' → Po c (J s) → u D σ' H') : tSeq (tIfS tt t t') u D σ H := by
  have h : Po c (M.ite m (A J) (B J)) := h
  refine EvC.run (C := tt σ) ev e0 h fun x b F1 H1 e1 hb hk => ?_
  have hb : b = x := hb
  subst hb
  cases b with
  | true => exact iteT (ht J (u D) F1 H1 hd e1 hk)
  | false => exact iteF (hf J (u D) F1 H1 hd e1 hk)
/-! ### stores -/
theorem sq_set {i : Nat} {R : R3 α} {m : M α} {k : α → M β} (ev : EvC c.w (te σ) R m F H) (e0 : Xt c.F0 c.H0 F H) (h : Po c (m.bd k)) (σ' : V → L2.St) (hσ : ∀ v, σ.set i (some v) = σ' v)
    (go : ∀ x v F1 H1, Xt F H F1 H1 → Xt c.F0 c.H0 F1 H1 → R H F1 H1 v x → Po c (k x) → u D (σ' v) H1) : tSeq (tAsg te (gName i)) u D σ H := by
  refine EvC.run (C := te σ) ev e0 h fun x v F1 H1 e1 hv hk => ?_
  show u D (σ.set i (some v)) H1
  rw [hσ]
  exact go x v F1 H1 e1 (e0.trans e1) hv hk
theorem sq_drop {R : R3 α} {m : M α} {k : α → M β} (ev : EvC c.w (te σ) R m F H) (e0 : Xt c.F0 c.H0 F H) (h : Po c (m.bd k))
    (go : ∀ x v F1 H1, Xt F H F1 H1 → Xt c.F0 c.H0 F1 H1 → R H F1 H1 v x → Po c (k x) → u D σ H1) : tSeq (tDrop te) u D σ H :=
  EvC.run (C := te σ) ev e0 h fun x v F1 H1 e1 hv hk => go x v F1 H1 e1 (e0.trans e1) hv hk
/-- a new list that will change -/
theorem sq_new {i : Nat} {r : Rl α} {m : M (List α)} {k : List α → M β} (ev : EvC c.w (te σ) (nw r) m F H) (e0 : Xt c.F0 c.H0 F H) (h : Po c (m.bd k)) (σ' : V → L2.St) (hσ : ∀ v, σ.set i (some v) = σ' v)
    (go : ∀ x p vs F1 H1, Xt F H F1 H1 → Xt c.F0 c.H0 F1 H1 → H p = none → Own c.H0 F1 H1 p (.lst vs) → Al r F1 vs x → x.length ≤ sizeLine → Po c (k x) → u D (σ' (.ref p)) H1) : tSeq (tAsg te (gName i)) u D σ H :=
  sq_set ev e0 h σ' hσ fun x v F1 H1 e1 e2 ⟨p, vs, ev, hp, hf, hh, al, hz⟩ hk => by
    subst ev
    exact go x p vs F1 H1 e1 e2 hp ⟨e0.free hp, hf, hh, trivial⟩ al hz hk
section
variable {κ : Type} [DecidableEq κ] {enc : κ → Key} {encT : κ → List Key} {r : Rl α} {k : List (κ × α) → M β} {i : Nat}
theorem sq_newD (e0 : Xt c.F0 c.H0 F H) (h : Po c ((M.ok []).bd k)) (σ' : V → L2.St) (hσ : ∀ v, σ.set i (some v) = σ' v)
    (go : ∀ p F1 H1, Xt F H F1 H1 → Xt c.F0 c.H0 F1 H1 → H p = none → Own c.H0 F1 H1 p (.dK []) → AD enc r F1 [] [] → ([] : List (κ × α)).length ≤ sizeLine → Po c (k []) → u D (σ' (.ref p)) H1) : tSeq (tAsg tDNewK (gName i)) u D σ H := fun p hp => by
  show u D (σ.set i (some (.ref p))) _
  rw [hσ]
  have e1 := (Xt.refl e0.fh).newM hp (o := .dK [])
  exact go p F _ e1 (e0.trans e1) hp ⟨e0.free hp, e0.fh.free hp, upd_same, trivial⟩ .nil (Nat.zero_le _) h
theorem sq_newT (e0 : Xt c.F0 c.H0 F H) (h : Po c ((M.ok []).bd k)) (σ' : V → L2.St) (hσ : ∀ v, σ.set i (some v) = σ' v)
    (go : ∀ p F1 H1, Xt F H F1 H1 → Xt c.F0 c.H0 F1 H1 → H p = none → Own c.H0 F1 H1 p (.dT []) → AD encT r F1 [] [] → ([] : List (κ × α)).length ≤ sizeLine → Po c (k []) → u D (σ' (.ref p)) H1) : tSeq (tAsg tDNewT (gName i)) u D σ H := fun p hp => by
  show u D (σ.set i (some (.ref p))) _
  rw [hσ]
  have e1 := (Xt.refl e0.fh).newM hp (o := .dT [])
  exact go p F _ e1 (e0.trans e1) hp ⟨e0.free hp, e0.fh.free hp, upd_same, trivial⟩ .nil (Nat.zero_le _) h
end
/-- a, b = e -/
theorem sq_unp2 {i j : Nat} {r : Rl α} {s : Rl γ} {m : M (α × γ)} {k : α × γ → M β} (ev : EvC c.w (te σ) (fz (rP r s)) m F H) (e0 : Xt c.F0 c.H0 F H) (h : Po c (m.bd k)) (σ' : V → V → L2.St) (hσ : ∀ v w, (σ.set i (some v)).set j (some w) = σ' v w)
    (go : ∀ x y v v' F1 H1, Xt F H F1 H1 → Xt c.F0 c.H0 F1 H1 → r F1 v x → s F1 v' y → Po c (k (x, y)) → u D (σ' v v') H1) : tSeq (tAsg te (gTup K 2 (gCons (gName i) (gCons (gName j) gNil)))) u D σ H := by
  refine EvC.run (C := te σ) ev e0 h fun x v F1 H1 e1 ⟨a, v1, v2, ea, h0, h1, h2⟩ hk => ?_
  refine ⟨a, _, ea, SqT.of (e1.fh _ _ h0), rfl, _, _, rfl, _, _, rfl, rfl, ?_⟩
  show u D ((σ.set i (some v1)).set j (some v2)) H1
  rw [hσ]
  exact go x.1 x.2 v1 v2 F1 H1 e1 (e0.trans e1) h1 h2 hk
theorem sq_unp3 {δ : Type} {i j l : Nat} {r : Rl α} {s : Rl γ} {t : Rl δ} {m : M (α × γ × δ)} {k : α × γ × δ → M β} (ev : EvC c.w (te σ) (fz (qT3 r s t)) m F H) (e0 : Xt c.F0 c.H0 F H) (h : Po c (m.bd k)) (σ' : V → V → V → L2.St) (hσ : ∀ v w y, ((σ.set i (some v)).set j (some w)).set l (some y) = σ' v w y)
    (go : ∀ x y z v v' v'' F1 H1, Xt F H F1 H1 → Xt c.F0 c.H0 F1 H1 → r F1 v x → s F1 v' y → t F1 v'' z → Po c (k (x, y, z)) → u D (σ' v v' v'') H1) : tSeq (tAsg te (gTup K 3 (gCons (gName i) (gCons (gName j) (gCons (gName l) gNil))))) u D σ H := by
  refine EvC.run (C := te σ) ev e0 h fun x v F1 H1 e1 ⟨a, v1, v2, v3, ea, h0, h1, h2, h3⟩ hk => ?_
  refine ⟨a, _, ea, SqT.of (e1.fh _ _ h0), rfl, _, _, rfl, _, _, rfl, _, _, rfl, rfl, ?_⟩
  show u D (((σ.set i (some v1)).set j (some v2)).set l (some v3)) H1
  rw [hσ]
  exact go x.1 x.2.1 x.2.2 v1 v2 v3 F1 H1 e1 (e0.trans e1) h1 h2 h3 hk
/-- x += e -/
theorem sq_aug {i : Nat} {m : M Int} {x0 : Int} {k : Int → M β} (hx : σ[i]? = some (some (.int x0))) (ev : EvC c.w (te σ) (fz rI) m F H) (e0 : Xt c.F0 c.H0 F H) (h : Po c (m.bd fun y => (M.ok (x0 + y)).bd k)) (σ' : V → L2.St) (hσ : ∀ v, σ.set i (some v) = σ' v)
    (go : ∀ x v F1 H1, Xt F H F1 H1 → Xt c.F0 c.H0 F1 H1 → rI F1 v x → Po c (k x) → u D (σ' v) H1) : tSeq (tAug i te (ipI fun i j => i + j)) u D σ H := by
  refine ⟨_, hx, EvC.run (C := te σ) ev e0 h fun y v F1 H1 e1 hv hk => ⟨_, _, rfl, hv, ?_⟩⟩
  show u D (σ.set i (some (.int (x0 + y)))) H1
  rw [hσ]
  exact go (x0 + y) _ F1 H1 e1 (e0.trans e1) rfl hk
theorem sq_augU {i : Nat} {m : M Nat} {x0 : Nat} {k : Nat → M β} (hx : σ[i]? = some (some (.int (x0 : Int)))) (ev : EvC c.w (te σ) (fz rNat) m F H) (e0 : Xt c.F0 c.H0 F H) (h : Po c (m.bd fun y => (M.ok (x0 + y)).bd k)) (σ' : V → L2.St) (hσ : ∀ v, σ.set i (some v) = σ' v)
    (go : ∀ x v F1 H1, Xt F H F1 H1 → Xt c.F0 c.H0 F1 H1 → rNat F1 v x → Po c (k x) → u D (σ' v) H1) : tSeq (tAug i te (ipI fun i j => i + j)) u D σ H := by
  refine ⟨_, hx, EvC.run (C := te σ) ev e0 h fun y v F1 H1 e1 hv hk => ⟨_, _, rfl, hv, ?_⟩⟩
  show u D (σ.set i (some (.int ((x0 : Int) + (y : Int))))) H1
  rw [hσ]
  exact go (x0 + y) _ F1 H1 e1 (e0.trans e1) rfl hk
/-! ### lists that change -/
section
variable {r : Rl α} [Mono r] {a : Addr} {vs : List V} {xs : List α} {i : Nat}
theorem sq_append {m : M α} {k : List α → M β} (w : Own c.H0 F H a (.lst vs)) (al : Al r F vs xs) (hσ : σ[i]? = some (some (.ref a))) (ev : EvC c.w (te σ) (fz r) m F H) (e0 : Xt c.F0 c.H0 F H) (h : Po c (m.bd fun x => (M.snoc xs x).bd k))
    (go : ∀ ys us F1 H1, Xt c.F0 c.H0 F1 H1 → Chg a (.lst us) F H F1 H1 → Own c.H0 F1 H1 a (.lst us) → Al r F1 us ys → ys.length ≤ sizeLine → Po c (k ys) → u D σ H1) : tSeq (tDrop (tBM K "list" rAppend (tVar i) (tCons te tNil))) u D σ H := by
  refine ⟨_, hσ, .inl ⟨rfl, _, SqL.of w.at_⟩, EvC.run (C := te σ) ev e0 h fun x v F1 H1 e1 hv hk => ?_⟩
  rcases Po.bd hk with ⟨ys, hy, hk⟩ | ⟨e, he, _⟩
  · obtain ⟨hl, rfl⟩ := gd_ok hy
    have w1 := w.up e1
    obtain ⟨c1, c2⟩ := w.chg e0 e1 (o := .lst (vs ++ [v]))
    exact ⟨a, vs, v, rfl, rfl, w1.at_, by rw [al.len]; exact hl, go _ _ F1 _ c1 c2 (w.set c2 trivial) ((al.mono e1.ff).snoc hv) (by rw [List.length_append, List.length_singleton]; omega) hk⟩
  · unfold M.snoc M.gd at he; split at he <;> cases he
theorem sq_extend {m : M (List α)} {k : List α → M β} (w : Own c.H0 F H a (.lst vs)) (al : Al r F vs xs) (hσ : σ[i]? = some (some (.ref a))) (ev : EvC c.w (te σ) (lb r) m F H) (e0 : Xt c.F0 c.H0 F H) (h : Po c (m.bd fun x => (M.cat xs x).bd k))
    (go : ∀ ys us F1 H1, Xt c.F0 c.H0 F1 H1 → Chg a (.lst us) F H F1 H1 → Own c.H0 F1 H1 a (.lst us) → Al r F1 us ys → ys.length ≤ sizeLine → Po c (k ys) → u D σ H1) : tSeq (tDrop (tBM K "list" rExtend (tVar i) (tCons te tNil))) u D σ H := by
  refine ⟨_, hσ, .inl ⟨rfl, _, SqL.of w.at_⟩, EvC.run (C := te σ) ev e0 h fun x v F1 H1 e1 ⟨b, ws, eb, hb, alb, _⟩ hk => ?_⟩
  rcases Po.bd hk with ⟨ys, hy, hk⟩ | ⟨e, he, _⟩
  · obtain ⟨hl, rfl⟩ := gd_ok hy
    subst eb
    have w1 := w.up e1
    obtain ⟨c1, c2⟩ := w.chg e0 e1 (o := .lst (vs ++ ws))
    exact ⟨a, b, vs, ws, rfl, rfl, w1.at_, hb, by rw [al.len, alb.len]; exact hl, go _ _ F1 _ c1 c2 (w.set c2 trivial) ((al.mono e1.ff).app alb) (by rw [List.length_append]; exact hl) hk⟩
  · unfold M.cat M.gd at he; split at he <;> cases he
theorem Al.tk : ∀ {F : Hp} {vs : List V} {xs : List α} (n : Nat), Al r F vs xs → Al r F (vs.take n) (xs.take n)
  | _, _, _, 0, _ => .nil
  | _, _, _, _ + 1, .nil => .nil
  | _, _, _, n + 1, .cons h t => .cons h (Al.tk n t)
theorem Al.dr : ∀ {F : Hp} {vs : List V} {xs : List α} (n : Nat), Al r F vs xs → Al r F (vs.drop n) (xs.drop n)
  | _, _, _, 0, h => h
  | _, _, _, _ + 1, .nil => .nil
  | _, _, _, n + 1, .cons h t => Al.dr n t
theorem Al.st {F : Hp} {v : V} {x : α} (hx : r F v x) : ∀ {vs : List V} {xs : List α} (n : Nat), Al r F vs xs → Al r F (vs.set n v) (xs.set n x)
  | _, _, _, .nil => .nil
  | _, _, 0, .cons _ t => .cons hx t
  | _, _, n + 1, .cons h t => .cons h (Al.st hx n t)
theorem sq_insert {ti : TE} {m : M α} {n : M Nat} {k : List α → M β} (w : Own c.H0 F H a (.lst vs)) (al : Al r F vs xs) (hσ : σ[i]? = some (some (.ref a))) (evi : EvC c.w (ti σ) (fz rNat) n F H) (ev : EvC c.w (te σ) (fz r) m F H) (e0 : Xt c.F0 c.H0 F H) (h : Po c (n.bd fun j => m.bd fun x => (M.ins xs j x).bd k))
    (go : ∀ ys us F1 H1, Xt c.F0 c.H0 F1 H1 → Chg a (.lst us) F H F1 H1 → Own c.H0 F1 H1 a (.lst us) → Al r F1 us ys → ys.length ≤ sizeLine → Po c (k ys) → u D σ H1) :
    tSeq (tDrop (tBM K "list" (fun x vs H Q => ∃ (l : Addr) (xs : List V) (i : Int) (y : V), x = .ref l ∧ vs = [.int i, y] ∧ H l = some (.lst xs) ∧ xs.length < sizeLine ∧ 0 ≤ i ∧ i < 2 ^ 63 ∧
    Q .non (upd H l (.lst (xs.take i.toNat ++ [y] ++ xs.drop i.toNat)))) (tVar i) (tCons ti (tCons te tNil)))) u D σ H := by
  refine ⟨_, hσ, .inl ⟨rfl, _, SqL.of w.at_⟩, EvC.run (C := ti σ) evi e0 h fun j v1 F1 H1 e1 hv1 hk => ?_⟩
  refine EvC.run (C := te σ) (ev.up e1) (e0.trans e1) hk fun x v F2 H2 e2 hv hk => ?_
  have e12 := e1.trans e2
  rcases Po.bd hk with ⟨ys, hy, hk⟩ | ⟨e, he, _⟩
  · obtain ⟨⟨hl, hj⟩, rfl⟩ := gd_ok hy
    have w1 := w.up e12
    obtain ⟨c1, c2⟩ := w.chg e0 e12 (o := .lst (vs.take j ++ [v] ++ vs.drop j))
    have hj' := hj
    rw [sl64] at hj'
    have al2 := al.mono e12.ff
    refine ⟨a, vs, j, v, rfl, by rw [show v1 = _ from hv1], w1.at_, by rw [al.len]; exact hl, by omega, by omega, ?_⟩
    rw [Int.toNat_natCast]
    exact go _ _ F2 _ c1 c2 (w.set c2 trivial) (((Al.tk j al2).snoc hv).app (Al.dr j al2)) (by rw [List.length_append, List.length_append, List.length_take, List.length_drop, List.length_singleton]; omega) hk
  · unfold M.ins M.gd at he; split at he <;> cases he
/-- xs[j] = e -/
theorem sq_setL {ti : TE} {m : M α} {n : M Nat} {k : List α → M β} (w : Own c.H0 F H a (.lst vs)) (al : Al r F vs xs) (hz : xs.length ≤ sizeLine) (hσ : σ[i]? = some (some (.ref a))) (ev : EvC c.w (te σ) (fz r) m F H) (evi : EvC c.w (ti σ) (fz rNat) n F H) (e0 : Xt c.F0 c.H0 F H) (h : Po c (m.bd fun x => n.bd fun j => (M.set xs j x).bd k))
    (go : ∀ ys us F1 H1, Xt c.F0 c.H0 F1 H1 → Chg a (.lst us) F H F1 H1 → Own c.H0 F1 H1 a (.lst us) → Al r F1 us ys → ys.length ≤ sizeLine → Po c (k ys) → u D σ H1) : tSeq (tAsg te (gSub (tVar i) ti L2.rSetL)) u D σ H := by
  refine EvC.run (C := te σ) ev e0 h fun x v F1 H1 e1 hv hk => ⟨_, hσ, ?_⟩
  refine EvC.run (C := ti σ) (evi.up e1) (e0.trans e1) hk fun j v1 F2 H2 e2 hv1 hk => ?_
  have e12 := e1.trans e2
  rcases Po.bd hk with ⟨ys, hy, hk⟩ | ⟨e, he, _⟩
  · obtain ⟨hl, rfl⟩ := gd_ok hy
    have w1 := w.up e12
    obtain ⟨c1, c2⟩ := w.chg e0 e12 (o := .lst (vs.set j v))
    have al2 := al.mono e12.ff
    refine ⟨a, vs, j, j, rfl, hv1, w1.at_, ?_, go _ _ F2 _ c1 c2 (w.set c2 trivial) (Al.st (Mono.mono (r := r) e2.ff hv) j al2) (by rw [List.length_set]; exact hz) hk⟩
    unfold ixN
    rw [al.len, if_pos (by omega), if_pos (by omega), Int.toNat_natCast]
  · unfold M.set M.gd at he; split at he <;> cases he
end
/-! d[k] = e -/
section
variable {κ : Type} [DecidableEq κ] {enc : κ → Key} {encT : κ → List Key} {r : Rl α} [Mono r] {rk : Rl κ} [Mono rk] {k : List (κ × α) → M β} {i : Nat} {a : Addr} {d : List (κ × α)} {m : M α} {n : M κ} {ty : TE}
theorem sq_put [KR rk enc] {kvs : List (Key × V)} (w : Own c.H0 F H a (.dK kvs)) (al : AD enc r F kvs d) (hσ : σ[i]? = some (some (.ref a))) (ev : EvC c.w (te σ) (fz r) m F H) (evk : EvC c.w (ty σ) (fz rk) n F H) (e0 : Xt c.F0 c.H0 F H) (h : Po c (m.bd fun x => n.bd fun y => (M.put d y x).bd k))
    (go : ∀ ys us F1 H1, Xt c.F0 c.H0 F1 H1 → Chg a (.dK us) F H F1 H1 → Own c.H0 F1 H1 a (.dK us) → AD enc r F1 us ys → ys.length ≤ sizeLine → Po c (k ys) → u D σ H1) : tSeq (sDPut (tVar i) ty te) u D σ H := by
  refine EvC.run (C := te σ) ev e0 h fun x v F1 H1 e1 hv hk => ⟨_, hσ, ?_⟩
  refine EvC.run (C := ty σ) (evk.up e1) (e0.trans e1) hk fun y v1 F2 H2 e2 hy hk => ?_
  have e12 := e1.trans e2
  rcases Po.bd hk with ⟨ys, hy2, hk⟩ | ⟨e, he, _⟩
  · obtain ⟨hl, rfl⟩ := gd_ok hy2
    have w1 := w.up e12
    obtain ⟨c1, c2⟩ := w.chg e0 e12 (o := .dK (putK kvs (enc y) v))
    have al2 := al.mono e12.ff
    refine ⟨a, _, rfl, by rw [KR.kr (r := rk) (enc := enc) hy]; exact DPut.k w1.at_ (by rw [al.len]; exact hl), go _ _ F2 _ c1 c2 (w.set c2 trivial) (AD.put (KR.inj (r := rk) (enc := enc)) (Mono.mono (r := r) e2.ff hv) al2) ?_ hk⟩
    rw [aPut_length]
    split <;> omega
  · unfold M.put M.gd at he; split at he <;> cases he
theorem sq_putT [KT rk encT] {kvs : List (List Key × V)} (w : Own c.H0 F H a (.dT kvs)) (al : AD encT r F kvs d) (hσ : σ[i]? = some (some (.ref a))) (ev : EvC c.w (te σ) (fz r) m F H) (evk : EvC c.w (ty σ) (fz rk) n F H) (e0 : Xt c.F0 c.H0 F H) (h : Po c (m.bd fun x => n.bd fun y => (M.put d y x).bd k))
    (go : ∀ ys us F1 H1, Xt c.F0 c.H0 F1 H1 → Chg a (.dT us) F H F1 H1 → Own c.H0 F1 H1 a (.dT us) → AD encT r F1 us ys → ys.length ≤ sizeLine → Po c (k ys) → u D σ H1) : tSeq (sDPut (tVar i) ty te) u D σ H := by
  refine EvC.run (C := te σ) ev e0 h fun x v F1 H1 e1 hv hk => ⟨_, hσ, ?_⟩
  refine EvC.run (C := ty σ) (evk.up e1) (e0.trans e1) hk fun y v1 F2 H2 e2 hy hk => ?_
  have e12 := e1.trans e2
  rcases Po.bd hk with ⟨ys, hy2, hk⟩ | ⟨e, he, _⟩
  · obtain ⟨hl, rfl⟩ := gd_ok hy2
    have w1 := w.up e12
    obtain ⟨c1, c2⟩ := w.chg e0 e12 (o := .dT (putK kvs (encT y) v))
    have al2 := al.mono e12.ff
    obtain ⟨b, eb, hb⟩ := KT.kt (r := rk) (enc := encT) hy
    subst eb
    refine ⟨a, _, rfl, DPut.t w1.at_ (e2.fh _ _ hb) (by rw [al.len]; exact hl), go _ _ F2 _ c1 c2 (w.set c2 trivial) (AD.put (KT.inj (r := rk) (enc := encT)) (Mono.mono (r := r) e2.ff hv) al2) ?_ hk⟩
    rw [aPut_length]
    split <;> omega
  · unfold M.put M.gd at he; split at he <;> cases he
end
/-! ### the end -/
theorem sq_ret {m : M β} [Dn c.rr] (ev : EvC c.w (te σ) c.rr m F H) (e0 : Xt c.F0 c.H0 F H) (h : Po c m) (hD : ∀ v H, c.Q v H → D.rt v H) : tSeq (tRet te) u D σ H := by
  have h1 := ev F H (Xt.refl e0.fh)
  cases m with
  | bad => exact h.elim
  | exc e => exact h1 (Out.up h e0) D.rt
  | ok x => exact h1 D.rt fun v F2 H2 e2 hr => hD v H2 (h v F2 H2 (e0.trans e2) (Dn.dn e0.hh hr))
/-- a list of one's own is handed back, new -/
theorem sq_retO {r : Rl α} {Q : VK} {w0 : Xw} {F0 H0 : Hp} {i : Nat} {a : Addr} {vs : List V} {xs : List α} (w : Own H0 F H a (.lst vs)) (al : Al r F vs xs) (hz : xs.length ≤ sizeLine) (hσ : σ[i]? = some (some (.ref a))) (e0 : Xt F0 H0 F H) (h : Po ⟨w0, Q, nw r, F0, H0⟩ (.ok xs)) (hD : ∀ v H, Q v H → D.rt v H) :
    tSeq (tRet (tVar i)) u D σ H := ⟨_, hσ, hD _ _ (h _ F H e0 ⟨a, vs, rfl, w.new, w.nof, w.at_, al, hz⟩)⟩
theorem sq_retOF {r : Rl α} [Mono r] {Q : VK} {w0 : Xw} {F0 H0 : Hp} {i : Nat} {a : Addr} {vs : List V} {xs : List α} (w : Own H0 F H a (.lst vs)) (al : Al r F vs xs) (hz : xs.length ≤ sizeLine) (hσ : σ[i]? = some (some (.ref a))) (e0 : Xt F0 H0 F H) (h : Po ⟨w0, Q, fz (qL r), F0, H0⟩ (.ok xs)) (hD : ∀ v H, Q v H → D.rt v H) :
    tSeq (tRet (tVar i)) u D σ H := ⟨_, hσ, hD _ _ (h _ _ H (e0.frz w.new w.at_ w.nof) ⟨a, vs, rfl, upd_same, al.mono (fun b u z => by rw [upd_ne (ne_of_none z w.nof)]; exact z), hz⟩)⟩
section
variable {κ : Type} [DecidableEq κ] {enc : κ → Key} {encT : κ → List Key} {r : Rl α} {Q : VK} {w0 : Xw} {F0 H0 : Hp} {i : Nat} {a : Addr} {xs : List (κ × α)}
theorem sq_retD {vs : List (Key × V)} (w : Own H0 F H a (.dK vs)) (al : AD enc r F vs xs) (hz : xs.length ≤ sizeLine) (hσ : σ[i]? = some (some (.ref a))) (e0 : Xt F0 H0 F H) (h : Po ⟨w0, Q, dn enc r, F0, H0⟩ (.ok xs)) (hD : ∀ v H, Q v H → D.rt v H) :
    tSeq (tRet (tVar i)) u D σ H := ⟨_, hσ, hD _ _ (h _ F H e0 ⟨a, vs, rfl, w.new, w.nof, w.at_, al, hz⟩)⟩
theorem sq_retDT {vs : List (List Key × V)} (w : Own H0 F H a (.dT vs)) (al : AD encT r F vs xs) (hz : xs.length ≤ sizeLine) (hσ : σ[i]? = some (some (.ref a))) (e0 : Xt F0 H0 F H) (h : Po ⟨w0, Q, dnT encT r, F0, H0⟩ (.ok xs)) (hD : ∀ v H, Q v H → D.rt v H) :
    tSeq (tRet (tVar i)) u D σ H := ⟨_, hσ, hD _ _ (h _ F H e0 ⟨a, vs, rfl, w.new, w.nof, w.at_, al, hz⟩)⟩
end
/-- a list of one's own is frozen for good -/
theorem frz_own {r : Rl α} [Mono r] {F0 H0 : Hp} {a : Addr} {vs : List V} {xs : List α} (w : Own H0 F H a (.lst vs)) (al : Al r F vs xs) (hz : xs.length ≤ sizeLine) (e0 : Xt F0 H0 F H) : ∃ F', Xt F0 H0 F' H ∧ Same F F' ∧ qL r F' (.ref a) xs ∧ (∀ b, b ≠ a → F b = none → F' b = none) :=
  ⟨_, e0.frz w.new w.at_ w.nof, fun b u z => by rw [upd_ne (ne_of_none z w.nof)]; exact z, ⟨a, vs, rfl, upd_same, al.mono (fun b u z => by rw [upd_ne (ne_of_none z w.nof)]; exact z), hz⟩, fun b hb hf => by rw [upd_ne hb]; exact hf⟩
/-! ### loops -/
theorem sq_for {S : Type} {wi : TI} {g : TG} {tb : L2.TS} {r : Rl α} {m : M (List α)} {body : S → α → (S → M β) → (S → M β) → M β} {aft : S → M β} {s0 : S} (ev : EvC c.w (wi σ) (iwF r) m F H) (e0 : Xt c.F0 c.H0 F H) (h : Po c (m.bd fun xs => M.fr body aft xs s0))
    (N : Hp → S → Hp → L2.St → Hp → Prop) (hN : ∀ F1 s F' σ' H', N F1 s F' σ' H' → Same F1 F' ∧ Same F' H') (h0 : ∀ F1 H1, Xt F H F1 H1 → Xt c.F0 c.H0 F1 H1 → N F1 s0 F1 σ H1)
    (hb : ∀ (nx bk : L2.St → Hp → Prop) F1 s F2 σ2 H2 F3 H3 x v (next : S → M β), N F1 s F2 σ2 H2 → Xt F2 H2 F3 H3 → r F3 v x → (∀ s F' σ' H', N F1 s F' σ' H' → Po c (next s) → nx σ' H') → (∀ s F' σ' H', N F1 s F' σ' H' → Po c (aft s) → bk σ' H') → Po c (body s x next aft) →
      g v σ2 H3 fun σ4 H4 => tb { D with nx := nx, ct := nx, bk := bk } σ4 H4)
    (hd : ∀ F1 s F' σ' H', N F1 s F' σ' H' → Po c (aft s) → u D σ' H') : tSeq (tFor wi g tb) u D σ H := by
  refine EvC.run (C := wi σ) ev e0 h fun xs J F1 H1 e1 hw hk => ?_
  obtain ⟨⟨G, Y, wk, hG, hY⟩, hz⟩ := hw
  refine for_it (D := { D with nx := u D }) wk (fun i σ' H' => ∃ s F', N F1 s F' σ' H' ∧ Po c (M.fr body aft (xs.drop i) s)) ⟨s0, F1, h0 F1 H1 e1 (e0.trans e1), hk⟩ (fun i σ' H' _ ⟨s, F', hn, _⟩ => ?_) ?_ ?_
  · obtain ⟨s1, s2⟩ := hN _ _ _ _ _ hn
    exact hG F' H' s1 s2
  · rintro i v σ' H' H'' hi ⟨s, F', hn, hp⟩ hy
    obtain ⟨s1, s2⟩ := hN _ _ _ _ _ hn
    obtain ⟨F'', x, hx, e2, hr⟩ := hY i H' v H'' F' hi s1 s2 hy
    have hdrop : xs.drop i = x :: xs.drop (i + 1) := by
      rw [List.drop_eq_getElem_cons hi]
      congr 1
      rw [List.getElem?_eq_getElem hi] at hx
      exact Option.some.inj hx
    rw [hdrop, M.fr_cons] at hp
    exact hb (fun σ' H' => ∃ s F', N F1 s F' σ' H' ∧ Po c (M.fr body aft (xs.drop (i + 1)) s)) (u D) F1 s F' σ' H' F'' H'' x v _ hn e2 hr (fun s F' σ' H' hn hp => ⟨s, F', hn, hp⟩) (hd F1) hp
  · rintro σ' H' ⟨s, F', hn, hp⟩
    rw [List.drop_length] at hp
    exact hd F1 s F' σ' H' hn hp
theorem sq_while {S : Type} {tt : TT} {tb : L2.TS} {mt : S → M Bool} {body : S → (S → M β) → (S → M β) → M β} {aft : S → M β} {fuel : Nat} {s0 : S} (h : Po c (M.wh (fun s next brk => M.ite (mt s) (body s next brk) (brk s)) aft fuel s0))
    (N : S → Hp → L2.St → Hp → Prop) (h0 : N s0 F σ H) (ht : ∀ s F2 σ2 H2, N s F2 σ2 H2 → EvC c.w (tt σ2) teq (mt s) F2 H2 ∧ Xt c.F0 c.H0 F2 H2)
    (hb : ∀ (nx bk : L2.St → Hp → Prop) s F2 σ2 H2 F3 H3 (next : S → M β), N s F2 σ2 H2 → Xt F2 H2 F3 H3 → (∀ s F' σ' H', N s F' σ' H' → Po c (next s) → nx σ' H') → (∀ s F' σ' H', N s F' σ' H' → Po c (aft s) → bk σ' H') → Po c (body s next aft) →
      tb { D with nx := nx, ct := nx, bk := bk } σ2 H3)
    (hd : ∀ s F2 σ2 H2 F3 H3, N s F2 σ2 H2 → Xt F2 H2 F3 H3 → Po c (aft s) → u D σ2 H3) : tSeq (tWhile tt tb) u D σ H := by
  refine ⟨fun n σ' H' => ∃ s F', N s F' σ' H' ∧ Po c (M.wh (fun s next brk => M.ite (mt s) (body s next brk) (brk s)) aft n s), ⟨fuel, s0, F, h0, h⟩, ?_⟩
  rintro n σ' H' ⟨s, F', hn, hp⟩
  cases n with
  | zero => exact hp.elim
  | succ n =>
    obtain ⟨ev, e0⟩ := ht s F' σ' H' hn
    refine EvC.run (C := tt σ') ev e0 hp fun x b F3 H3 e3 hbx hk => ?_
    have hbx : b = x := hbx
    subst hbx
    cases b with
    | false => exact iteF (hd s F' σ' H' F3 H3 hn e3 hk)
    | true =>
      refine iteT ⟨fun σ' H' => ∃ s F', N s F' σ' H' ∧ Po c (M.wh (fun s next brk => M.ite (mt s) (body s next brk) (brk s)) aft n s), fun σ' H' h => ⟨n, Nat.lt_succ_self _, h⟩, ?_⟩
      exact hb _ (u D) s F' σ' H' F3 H3 _ hn e3 (fun s F' σ' H' hn hp => ⟨s, F', hn, hp⟩) (fun s F' σ' H' hn hp => hd s F' σ' H' F' H' hn (Xt.refl (ht s F' σ' H' hn).2.fh) hp) hk
end
section
variable {β : Type} {c : Cxt β} {σ : L2.St} {F H : Hp} {K : PySem.W.Frag} {α γ δ : Type} {te tl : TE} {u : L2.TS} {D : Ends}
theorem sq_newDG {κ : Type} [DecidableEq κ] {enc : κ → Key} {r : Rl α} {i : Nat} {m : M (List (κ × α))} {k : List (κ × α) → M β} (ev : EvC c.w (te σ) (dn enc r) m F H) (e0 : Xt c.F0 c.H0 F H) (h : Po c (m.bd k)) (σ' : V → L2.St) (hσ : ∀ v, σ.set i (some v) = σ' v)
    (go : ∀ x p vs F1 H1, Xt F H F1 H1 → Xt c.F0 c.H0 F1 H1 → H p = none → Own c.H0 F1 H1 p (.dK vs) → AD enc r F1 vs x → x.length ≤ sizeLine → Po c (k x) → u D (σ' (.ref p)) H1) : tSeq (tAsg te (gName i)) u D σ H :=
  sq_set ev e0 h σ' hσ fun x v F1 H1 e1 e2 ⟨p, vs, ev, hp, hf, hh, al, hz⟩ hk => by
    subst ev
    exact go x p vs F1 H1 e1 e2 hp ⟨e0.free hp, hf, hh, trivial⟩ al hz hk
theorem sq_newTG {κ : Type} [DecidableEq κ] {enc : κ → List Key} {r : Rl α} {i : Nat} {m : M (List (κ × α))} {k : List (κ × α) → M β} (ev : EvC c.w (te σ) (dnT enc r) m F H) (e0 : Xt c.F0 c.H0 F H) (h : Po c (m.bd k)) (σ' : V → L2.St) (hσ : ∀ v, σ.set i (some v) = σ' v)
    (go : ∀ x p vs F1 H1, Xt F H F1 H1 → Xt c.F0 c.H0 F1 H1 → H p = none → Own c.H0 F1 H1 p (.dT vs) → AD enc r F1 vs x → x.length ≤ sizeLine → Po c (k x) → u D (σ' (.ref p)) H1) : tSeq (tAsg te (gName i)) u D σ H :=
  sq_set ev e0 h σ' hσ fun x v F1 H1 e1 e2 ⟨p, vs, ev, hp, hf, hh, al, hz⟩ hk => by
    subst ev
    exact go x p vs F1 H1 e1 e2 hp ⟨e0.free hp, hf, hh, trivial⟩ al hz hk
/-! targets of a for -/
theorem g1 {tb : L2.TS} {i : Nat} {v : V} (σ' : L2.St) (hσ : σ.set i (some v) = σ') (h : tb D σ' H) : gName i v σ H (fun σ4 H4 => tb D σ4 H4) := by
  show tb D (σ.set i (some v)) H
  rw [hσ]; exact h
theorem g2 {tb : L2.TS} {i j : Nat} {v : V} {r : Rl α} {s : Rl γ} {x : α × γ} (hx : rP r s F v x) (sF : Same F H) (σ' : V → V → L2.St) (hσ : ∀ v1 v2, (σ.set i (some v1)).set j (some v2) = σ' v1 v2) (h : ∀ v1 v2, r F v1 x.1 → s F v2 x.2 → tb D (σ' v1 v2) H) :
    gTup K 2 (gCons (gName i) (gCons (gName j) gNil)) v σ H (fun σ4 H4 => tb D σ4 H4) := by
  obtain ⟨a, u1, u2, ea, h0, h1, h2⟩ := hx
  refine ⟨a, _, ea, SqT.of (sF _ _ h0), rfl, _, _, rfl, _, _, rfl, rfl, ?_⟩
  show tb D ((σ.set i (some u1)).set j (some u2)) H
  rw [hσ]; exact h _ _ h1 h2
theorem g3 {tb : L2.TS} {i j l : Nat} {v : V} {r : Rl α} {s : Rl γ} {t : Rl δ} {x : α × γ × δ} (hx : qT3 r s t F v x) (sF : Same F H) (σ' : V → V → V → L2.St) (hσ : ∀ v1 v2 v3, ((σ.set i (some v1)).set j (some v2)).set l (some v3) = σ' v1 v2 v3) (h : ∀ v1 v2 v3, r F v1 x.1 → s F v2 x.2.1 → t F v3 x.2.2 → tb D (σ' v1 v2 v3) H) :
    gTup K 3 (gCons (gName i) (gCons (gName j) (gCons (gName l) gNil))) v σ H (fun σ4 H4 => tb D σ4 H4) := by
  obtain ⟨a, u1, u2, u3, ea, h0, h1, h2, h3⟩ := hx
  refine ⟨a, _, ea, SqT.of (sF _ _ h0), rfl, _, _, rfl, _, _, rfl, _, _, rfl, rfl, ?_⟩
  show tb D (((σ.set i (some u1)).set j (some u2)).set l (some u3)) H
  rw [hσ]; exact h _ _ _ h1 h2 h3
theorem g12 {tb : L2.TS} {i j l : Nat} {v : V} {r : Rl α} {s : Rl γ} {t : Rl δ} {x : α × γ × δ} (hx : rP r (rP s t) F v x) (sF : Same F H) (σ' : V → V → V → L2.St) (hσ : ∀ v1 v2 v3, ((σ.set i (some v1)).set j (some v2)).set l (some v3) = σ' v1 v2 v3) (h : ∀ v1 v2 v3, r F v1 x.1 → s F v2 x.2.1 → t F v3 x.2.2 → tb D (σ' v1 v2 v3) H) :
    gTup K 2 (gCons (gName i) (gCons (gTup K 2 (gCons (gName j) (gCons (gName l) gNil))) gNil)) v σ H (fun σ4 H4 => tb D σ4 H4) := by
  obtain ⟨a, u1, u2, ea, h0, h1, b, u3, u4, eb, h3, h4, h5⟩ := hx
  refine ⟨a, _, ea, SqT.of (sF _ _ h0), rfl, _, _, rfl, _, _, rfl, b, _, eb, SqT.of (sF _ _ h3), rfl, _, _, rfl, _, _, rfl, rfl, rfl, ?_⟩
  show tb D (((σ.set i (some u1)).set j (some u3)).set l (some u4)) H
  rw [hσ]; exact h _ _ _ h1 h4 h5
end
section
variable {w : Xw} {σ : L2.St} {F H : Hp} {K : PySem.W.Frag} {α β γ δ : Type} {ta tb tc : TE}
theorem e_lstP {r : Rl α} [Mono r] {ts : TA} {xs : List α} (hs : EvA w ts σ (ral r) (fun f => f xs) F H) (hl : xs.length ≤ 1000) : EvC w (tLst ts σ) (nw r) (.ok xs) F H := by
  have h : EvC w (tLst ts σ) (nw r) (M.gd (xs.length ≤ sizeLine) (.ok xs)) F H := e_lst hs
  rw [M.gd_pos (by rw [sl64]; omega)] at h
  exact h
theorem e_nd {κ : Type} [DecidableEq κ] {enc : κ → Key} {C : Hp → (V → Hp → Prop) → Prop} {r : Rl α} {m : M (List (κ × α))} (h : EvC w C (dn enc r) m F H) : EvC w C (db enc r) m F H := e_mp h fun _ _ _ _ _ ⟨a, vs, e, _, _, hh, al, hz⟩ => ⟨a, vs, e, hh, al, hz⟩
theorem e_ndT {κ : Type} [DecidableEq κ] {enc : κ → List Key} {C : Hp → (V → Hp → Prop) → Prop} {r : Rl α} {m : M (List (κ × α))} (h : EvC w C (dnT enc r) m F H) : EvC w C (dbT enc r) m F H := e_mp h fun _ _ _ _ _ ⟨a, vs, e, _, _, hh, al, hz⟩ => ⟨a, vs, e, hh, al, hz⟩
theorem e_lcMap {C : Hp → (V → Hp → Prop) → Prop} {R : R3 (List β)} {m : M (List α)} {f : α → β} (h : EvC w C R (m.bd fun xs => M.lc (fun _ => .ok true) (fun x => .ok (f x)) xs) F H) : EvC w C R (m.bd fun xs => .ok (xs.map f)) F H := by
  have e : (fun xs => M.lc (fun _ => .ok true) (fun x => .ok (f x)) xs) = fun xs : List α => M.ok (xs.map f) := funext fun xs => lc_map xs
  rw [e] at h; exact h
theorem e_lcPure {C : Hp → (V → Hp → Prop) → Prop} {R : R3 (List β)} {m : M (List α)} {p : α → Bool} {f : α → β} (h : EvC w C R (m.bd fun xs => M.lc (fun x => .ok (p x)) (fun x => .ok (f x)) xs) F H) : EvC w C R (m.bd fun xs => .ok ((xs.filter p).map f)) F H := by
  have e : (fun xs => M.lc (fun x => .ok (p x)) (fun x => .ok (f x)) xs) = fun xs : List α => M.ok ((xs.filter p).map f) := funext fun xs => lc_pure xs
  rw [e] at h; exact h
theorem e_lcFil {C : Hp → (V → Hp → Prop) → Prop} {R : R3 (List α)} {m : M (List α)} {p : α → Bool} (h : EvC w C R (m.bd fun xs => M.lc (fun x => .ok (p x)) (fun x => .ok x) xs) F H) : EvC w C R (m.bd fun xs => .ok (xs.filter p)) F H := by
  have e : (fun xs => M.lc (fun x => .ok (p x)) (fun x => .ok x) xs) = fun xs : List α => M.ok (xs.filter p) := funext fun xs => lc_fil xs
  rw [e] at h; exact h
theorem e_inT [DecidableEq α] {r : Rl α} [Mono r] [Fla r] {m : M α} {n : M (List α)} (ha : EvC w (ta σ) (fz r) m F H) (hb : EvC w (tb σ) (fz (qTL r)) n F H) : EvC w (tOp (rIn K false) ta tb σ) (fz rB) (m.bd fun x => n.bd fun xs => .ok (decide (x ∈ xs))) F H :=
  e_op ha hb (fun _ _ => .inl ⟨_, rfl⟩) fun hz h1 h2 s Q q => by
    cases hz
    obtain ⟨a, vs, rfl, e, al⟩ := h2
    obtain ⟨i1, i2⟩ := inV_al (r := r) h1 al
    refine ⟨a, vs, rfl, .inr (SqT.of (s _ _ e)), (Fla.fla (r := r) h1 h1).1, i1, ?_⟩
    rw [if_neg Bool.false_ne_true, i2]
    exact q _ _ _ (Xt.refl s) rfl
class NN (r : Rl α) : Prop where
  nn : ∀ F v x, r F v x → v ≠ .non
instance : NN rI := ⟨fun _ _ _ h => by cases h; simp⟩
instance : NN rNat := ⟨fun _ _ _ h => by cases h; simp⟩
instance : NN rC := ⟨fun _ _ _ h => by cases h; simp⟩
instance : NN rB := ⟨fun _ _ _ h => by cases h; simp⟩
instance : NN qS := ⟨fun _ _ _ h => by obtain ⟨rfl, _⟩ := h; simp⟩
instance {r : Rl α} : NN (qL r) := ⟨fun _ _ _ ⟨a, vs, e, _⟩ => by rw [e]; simp⟩
instance {r : Rl α} {s : Rl β} : NN (rP r s) := ⟨fun _ _ _ ⟨a, u, z, e, _⟩ => by rw [e]; simp⟩
theorem e_isNc {r : Rl α} [NN r] {m : M (Option α)} (ha : EvC w (ta σ) (fz (rO r)) m F H) : EvC w (tOp (fun x y H Q => y = V.non ∧ Q (.bl (decide (x = V.non))) H) ta (tC .non) σ) (fz rB) (m.bd fun x => .ok x.isNone) F H := e_isN NN.nn rfl ha
theorem e_notNc {r : Rl α} [NN r] {m : M (Option α)} (ha : EvC w (ta σ) (fz (rO r)) m F H) : EvC w (tOp (fun x y H Q => y = V.non ∧ Q (.bl (!decide (x = V.non))) H) ta (tC .non) σ) (fz rB) (m.bd fun x => .ok x.isSome) F H := e_notN NN.nn rfl ha
theorem Al.cs1 {F : Hp} : ∀ {vs : List V} {xs : List Nat}, Al rC F vs xs → Al qS F vs (xs.map fun c => [c])
  | _, _, .nil => .nil
  | _, _, .cons h t => .cons ⟨h, one_le⟩ (Al.cs1 t)
theorem e_csL {C : Hp → (V → Hp → Prop) → Prop} {m : M (List Nat)} (h : EvC w C (fz (qL rC)) m F H) : EvC w C (fz (qL qS)) (m.bd fun x => .ok (x.map fun c => [c])) F H := e_cv h fun F v x ⟨a, vs, e, h1, al, hz⟩ => ⟨a, vs, e, h1, al.cs1, by rw [List.length_map]; exact hz⟩
end
end SF
namespace SF
theorem fr_ex {α β σ : Type} {body : σ → α → (σ → M β) → (σ → M β) → M β} {aft : σ → M β} (G : M β → Prop) (I : List α → σ → Prop) (h : ∀ x r s (next brk : σ → M β), I (x :: r) s → ∃ s', body s x next brk = next s' ∧ I r s') (fin : ∀ s, I [] s → G (aft s)) : ∀ l s, I l s → G (M.fr body aft l s)
  | [], s, hi => fin s hi
  | x :: r, s, hi => by
    obtain ⟨s', e, hi'⟩ := h x r s (M.fr body aft r) aft hi
    show G (body s x (M.fr body aft r) aft)
    rw [e]
    exact fr_ex G I h fin r s' hi'
theorem ex_bd {α β : Type} {m : M α} {x : α} {f : α → M β} {P : β → Prop} (h : m = .ok x) (k : ∃ b, f x = .ok b ∧ P b) : ∃ b, m.bd f = .ok b ∧ P b := by rw [h]; exact k
theorem snoc_ok {α : Type} {l : List α} {x : α} (h : l.length ≤ 1000) : M.snoc l x = .ok (l ++ [x]) := by
  unfold M.snoc
  exact M.gd_pos (by rw [sl64]; omega)
end SF
/-! ### {k: v for a in xs for b in ys}, the keys tuples -/
namespace SF
open PySem PySem.Spec PyProof.Rows L2
theorem d_setT {X : Cx} {pins : List (Addr × Obj)} {σ : L2.St} {H : Hp} {s : Shared} {E : Value → Shared → Prop} {A : Around} {D b : Addr} {kvs : List (List Key × V)} {k : List Key} {v : V} {u r : Value} {Q : Unit → Shared → Prop} (hu : A.units + 1 < cLine) (I : Inv X pins σ H s) (e : H D = some (.dT kvs)) (eb : H b = some (.tup (k.map kV))) (l : kvs.length < sizeLine)
    (ry : RelV (.ref b) u) (rv : RelV v r) (h : ∀ s', Inv X pins σ (upd H D (.dT (putK kvs k v))) s' → Q () s') : wpAny (model X.prog X.w) A (dictSet D u r) Q E s := by
  cases (show u = Value.ref b from ry)
  obtain ⟨z, hd, xs, rel, dd⟩ := dt_of I.hok e
  have hz1 : xs.length ≤ sizeLine := by have q := Paired.length rel; omega
  have hz2 : (putK kvs k v).length ≤ sizeLine := by have := length_putK kvs k v; omega
  refine wpAny_dictSet_heap (hsz := hz1) (by show _ < cLine; omega) (key_of I.hok eb) dd fun h' dd' hs => h _ ?_
  obtain ⟨q, es, ep, hq, g2, g3, g4, _, g5⟩ := dd'
  refine d_write I (by rw [e]; exact True.intro) hs ⟨q, hq⟩ ⟨hz2, hd, _, (rel.put k eb rv).keeps fun c ys ec => ?_, q, es, ep, hq, g2, g3, g4, g5⟩
  rw [upd_ne (ne_of ec e fun z => nomatch z), ec]
theorem turnD_out (kx vx t0 i0 t1 i1 : Expr) (ifs0 ifs1 : List Expr) (scope : Scope) (pos : Pos) (it : Value) (D : Addr) (env : Env) :
    compTurn (.DictComp kx vx [⟨t0, i0, ifs0, 0⟩, ⟨t1, i1, ifs1, 0⟩] scope pos) 0 it (.ref D) env = (do
      standAt i0.pos
      match ← pyNext it with
      | none => pure (.done .next)
      | some v =>
        letOwnedTupleGo t0 it v
        assign t0 env v
        let mut ok := true
        for c in ifs0 do
          if ok then ok ← isTrue c env (eval c env)
        if ok then
          let x ← eval i1 env
          standAt i1.pos
          let x ← foldedSetIterable i1 env x
          let _ ← runOwn (.compStart (.DictComp kx vx [⟨t0, i0, ifs0, 0⟩, ⟨t1, i1, ifs1, 0⟩] scope pos) 1 (← holding [x] (pyIter x)) (.ref D) env) env
        again (.compLoop (.DictComp kx vx [⟨t0, i0, ifs0, 0⟩, ⟨t1, i1, ifs1, 0⟩] scope pos) 0 it (.ref D) env)) := by rfl
theorem turnD_in (kx vx t0 i0 t1 i1 : Expr) (ifs0 ifs1 : List Expr) (scope : Scope) (pos : Pos) (it : Value) (D : Addr) (env : Env) :
    compTurn (.DictComp kx vx [⟨t0, i0, ifs0, 0⟩, ⟨t1, i1, ifs1, 0⟩] scope pos) 1 it (.ref D) env = (do
      standAt i1.pos
      match ← pyNext it with
      | none => pure (.done .next)
      | some v =>
        letOwnedTupleGo t1 it v
        assign t1 env v
        let mut ok := true
        for c in ifs1 do
          if ok then ok ← isTrue c env (eval c env)
        if ok then
          (do
            let kv ← eval kx env
            let vv ← holding [kv] (eval vx env)
            standAt { kx.pos with endLine := vx.pos.endLine, endCol := vx.pos.endCol }
            holding [kv, vv] (dictSet D kv vv))
        again (.compLoop (.DictComp kx vx [⟨t0, i0, ifs0, 0⟩, ⟨t1, i1, ifs1, 0⟩] scope pos) 1 it (.ref D) env)) := by rfl

section
variable {prog : Program} {w : World} {A : Around} {R : Result → Shared → Prop} {s : Shared} {kx vx t0 i0 t1 i1 : Expr} {ifs0 ifs1 : List Expr} {scope : Scope} {pos : Pos} {it : Value} {D : Addr} {env : Env}
/-- the loop of the first clause -/
theorem loopD_out (hs : ∀ x, foldedSetIterable i1 env x = pure x) (I : Nat → Shared → Prop)
    (turn : ∀ n s, I n s → wpAny (model prog w) A (pyNext it) (fun r s₁ => match r with
      | none => R (.ok .next) s₁
      | some v => wpAny (model prog w) A (letOwnedTupleGo t0 it v) (fun _ s₁' => wpAny (model prog w) A (assign t0 env v) (fun _ s₂ =>
          wpAny (model prog w) A (forIn ifs0 true fun c r => if r = true then do let ok ← isTrue c env (eval c env); pure (ForInStep.yield ok) else pure (ForInStep.yield r)) (fun ok s₃ =>
            if ok = true then wpAny (model prog w) A (eval i1 env) (fun x s₄ => wpAny (model prog w) A (pyIter x) (fun it1 s₅ =>
              codeAny (model prog w) A (.compStart (.DictComp kx vx [⟨t0, i0, ifs0, 0⟩, ⟨t1, i1, ifs1, 0⟩] scope pos) 1 it1 (.ref D) env) (fun r s' => match r with
                | .ok _ => ∃ m, m < n ∧ I m s'
                | .error _ => False) s₅) (notedBy (model prog w) A env fun e s' => R (.error e) s') s₄) (notedBy (model prog w) A env fun e s' => R (.error e) s') s₃
            else ∃ m, m < n ∧ I m s₃) (notedBy (model prog w) A env fun e s' => R (.error e) s') s₂) (notedBy (model prog w) A env fun e s' => R (.error e) s') s₁') (notedBy (model prog w) A env fun e s' => R (.error e) s') s₁) (notedBy (model prog w) A env fun e s' => R (.error e) s') s)
    (n : Nat) (h : I n s) :
    codeAny (model prog w) A (.compLoop (.DictComp kx vx [⟨t0, i0, ifs0, 0⟩, ⟨t1, i1, ifs1, 0⟩] scope pos) 0 it (.ref D) env) R s := by
  refine codeAny_loop rfl I (fun n s hI => ?_) n h
  show wpAny _ A ((compTurn (.DictComp kx vx [⟨t0, i0, ifs0, 0⟩, ⟨t1, i1, ifs1, 0⟩] scope pos) 0 it (.ref D) env).onRaise (fun x => do noteFrame x env; theTreesLotGoes x)) _ _ s
  refine wpAny_noted ?_
  rw [turnD_out]
  refine wpAny_bind (wpAny_standAt (wpAny_bind (wpAny_mono (turn n s hI) (fun r s₁ h₁ => ?_) fun _ _ h' => h')))
  cases r with
  | none => exact wpAny_pure h₁
  | some v =>
    refine wpAny_bind (wpAny_mono h₁ (fun _ s₁' h₁' => ?_) fun _ _ h' => h')
    refine wpAny_bind (wpAny_mono h₁' (fun _ s₂ h₂ => wpAny_bind (wpAny_mono h₂ (fun ok s₃ h₃ => ?_) fun _ _ h' => h')) fun _ _ h' => h')
    cases ok with
    | false => exact wpAny_pure ⟨rfl, h₃⟩
    | true =>
      refine wpAny_bind (wpAny_mono h₃ (fun x s₄ h₄ => ?_) fun _ _ h' => h')
      refine wpAny_bind (wpAny_standAt (wpAny_bind (wpAny_of_eq (hs x) (wpAny_bind (wpAny_holding (wpAny_mono h₄ (fun it1 s₅ h₅ => ?_) fun _ _ h' => h'))))))
      refine wpAny_bind (wpAny_runOwn ?_)
      rw [Around.mark_none]
      refine codeAny_mono h₅ fun r s' hr => ?_
      cases r with
      | ok f =>
        first
          | exact wpAny_pure ⟨rfl, hr⟩
          | exact wpAny_bind (wpAny_pure (wpAny_pure ⟨rfl, hr⟩))
      | error e => exact hr.elim
/-- the loop of the second -/
theorem loopD_in (I : Nat → Shared → Prop)
    (turn : ∀ n s, I n s → wpAny (model prog w) A (pyNext it) (fun r s₁ => match r with
      | none => R (.ok .next) s₁
      | some v => wpAny (model prog w) A (letOwnedTupleGo t1 it v) (fun _ s₁' => wpAny (model prog w) A (assign t1 env v) (fun _ s₂ =>
          wpAny (model prog w) A (forIn ifs1 true fun c r => if r = true then do let ok ← isTrue c env (eval c env); pure (ForInStep.yield ok) else pure (ForInStep.yield r)) (fun ok s₃ =>
            if ok = true then wpAny (model prog w) A (eval kx env) (fun kv s₄ => wpAny (model prog w) A (eval vx env) (fun vv s₅ =>
              wpAny (model prog w) A (dictSet D kv vv) (fun _ s₆ => ∃ m, m < n ∧ I m s₆) (notedBy (model prog w) A env fun e s' => R (.error e) s') s₅) (notedBy (model prog w) A env fun e s' => R (.error e) s') s₄) (notedBy (model prog w) A env fun e s' => R (.error e) s') s₃
            else ∃ m, m < n ∧ I m s₃) (notedBy (model prog w) A env fun e s' => R (.error e) s') s₂) (notedBy (model prog w) A env fun e s' => R (.error e) s') s₁') (notedBy (model prog w) A env fun e s' => R (.error e) s') s₁) (notedBy (model prog w) A env fun e s' => R (.error e) s') s)
    (n : Nat) (h : I n s) :
    codeAny (model prog w) A (.compLoop (.DictComp kx vx [⟨t0, i0, ifs0, 0⟩, ⟨t1, i1, ifs1, 0⟩] scope pos) 1 it (.ref D) env) R s := by
  refine codeAny_loop rfl I (fun n s hI => ?_) n h
  show wpAny _ A ((compTurn (.DictComp kx vx [⟨t0, i0, ifs0, 0⟩, ⟨t1, i1, ifs1, 0⟩] scope pos) 1 it (.ref D) env).onRaise (fun x => do noteFrame x env; theTreesLotGoes x)) _ _ s
  refine wpAny_noted ?_
  rw [turnD_in]
  refine wpAny_bind (wpAny_standAt (wpAny_bind (wpAny_mono (turn n s hI) (fun r s₁ h₁ => ?_) fun _ _ h' => h')))
  cases r with
  | none => exact wpAny_pure h₁
  | some v =>
    refine wpAny_bind (wpAny_mono h₁ (fun _ s₁' h₁' => ?_) fun _ _ h' => h')
    refine wpAny_bind (wpAny_mono h₁' (fun _ s₂ h₂ => wpAny_bind (wpAny_mono h₂ (fun ok s₃ h₃ => ?_) fun _ _ h' => h')) fun _ _ h' => h')
    cases ok with
    | false => exact wpAny_pure ⟨rfl, h₃⟩
    | true =>
      exact wpAny_bind (wpAny_bind (wpAny_mono h₃ (fun kv s₄ h₄ => wpAny_bind (wpAny_holding (wpAny_mono h₄ (fun vv s₅ h₅ => wpAny_bind (wpAny_standAt (wpAny_holding (wpAny_mono h₅ (fun _ s₆ h₆ => wpAny_pure ⟨rfl, h₆⟩) fun _ _ h' => h')))) fun _ _ h' => h'))) fun _ _ h' => h'))
/-- the second clause's start -/
theorem startD_one (h0 : codeAny (model prog w) A (.compLoop (.DictComp kx vx [⟨t0, i0, ifs0, 0⟩, ⟨t1, i1, ifs1, 0⟩] scope pos) 1 it (.ref D) env) R s)
    (h : wpAny (model prog w) A (pyIter it) (fun it' s' => codeAny (model prog w) A (.compLoop (.DictComp kx vx [⟨t0, i0, ifs0, 0⟩, ⟨t1, i1, ifs1, 0⟩] scope pos) 1 it' (.ref D) env) R s')
      (notedBy (model prog w) A env fun x s' => R (.error x) s') s) :
    codeAny (model prog w) A (.compStart (.DictComp kx vx [⟨t0, i0, ifs0, 0⟩, ⟨t1, i1, ifs1, 0⟩] scope pos) 1 it (.ref D) env) R s := by
  refine codeAny_of_tree ?_
  show wpAny _ _ ((compStart (.DictComp kx vx [⟨t0, i0, ifs0, 0⟩, ⟨t1, i1, ifs1, 0⟩] scope pos) 1 it (.ref D) env).onRaise (fun x => do noteFrame x env; standAt theWindowsPlace)) _ _ s
  refine wpAny_notedAt ?_
  unfold compStart
  show wpAny _ _ (ask >>= _) _ _ s
  refine wpAny_bind (wpAny_askSetting (wpAny_ite ?_))
  split
  · first
      | exact wpAny_bind (wpAny_pure (wpAny_pure (And.intro rfl h0)))
      | exact wpAny_pure (And.intro rfl h0)
  · first
      | exact wpAny_bind (wpAny_rule (wpAny_bind (wpAny_standAt (wpAny_bind (wpAny_mono h (fun it' s' h' => wpAny_pure (And.intro rfl h')) fun _ _ x => x)))))
      | (refine wpAny_bind (wpAny_rule ?_); show wpAny _ _ (standAt i1.pos >>= _) _ _ s; exact wpAny_bind (wpAny_standAt (wpAny_bind (wpAny_mono h (fun it' s' h' => wpAny_pure (And.intro rfl h')) fun _ _ x => x))))
end

section
variable {X : Cx}
def tDcT (wi : TI) (g : TG) (tt : TT) (wi1 : TI) (g1 : TG) (tt1 : TT) (tk tv : TE) (vs vs1 : List Nat) : TE := fun σ H Q => wi σ H fun J H1 => ∀ D, H1 D = none → ∃ W : Nat → Nat → Hp → Prop, (∃ m, W 0 m (upd H1 D (.dT []))) ∧ ∀ i m H, W i m H →
  (J.stop i H ∧ Q (.ref D) H) ∨ (J.go i H ∧ ∃ Nx : Hp → Prop, (∀ H', Nx H' → ∃ m', m' < m ∧ W (i + 1) m' H') ∧ ∀ x H', J.yld i H x H' → g x (wipe σ vs) H' fun σ2 H2 => wipe σ2 vs = wipe σ vs ∧ tt σ2 H2 fun b H3 =>
    if b = true then wi1 σ2 H3 fun J1 H4 => ∃ W1 : Nat → Nat → Hp → Prop, (∃ m, W1 0 m H4) ∧ ∀ j k H, W1 j k H →
      (J1.stop j H ∧ Nx H) ∨ (J1.go j H ∧ ∃ Nx1 : Hp → Prop, (∀ H', Nx1 H' → ∃ k', k' < k ∧ W1 (j + 1) k' H') ∧ ∀ x H', J1.yld j H x H' → g1 x (wipe σ2 vs1) H' fun σ3 H5 => wipe σ3 vs1 = wipe σ2 vs1 ∧ tt1 σ3 H5 fun b H6 =>
        if b = true then tk σ3 H6 fun y H7 => tv σ3 H7 fun z H8 => ∃ kvs k b, y = .ref b ∧ H8 b = some (.tup (k.map kV)) ∧ H8 D = some (.dT kvs) ∧ kvs.length < sizeLine ∧ Nx1 (upd H8 D (.dT (putK kvs k z))) else Nx1 H6)
    else Nx H3)
theorem dcT_core {pins : List (Addr × Obj)} {s : Shared} {σ : L2.St} {H : Hp} {Q : VK} {kx vx tg iter tg1 iter1 : Expr} {ifs ifs1 : List Expr} {scope : Scope} {own : List (Str × Nat)} {vs1 : List Nat} {pos pos' : Pos} {wi wi1 : TI} {g g1 : TG} {tt tt1 : TT} {tk tv : TE} {use : Option (Value → Sem Unit)} {Qf : Value → Shared → Prop}
    (hc : X.calm = true) (hu : X.A.units + 1 < cLine) (hN : X.N.Nodup) (I : Inv X pins σ H s) (hi : PI X tg iter wi) (ok : BlkOk X.N X.env.scope scope own) (hv : ∀ i ∈ vs1, i ∈ own.map (·.2))
    (hg : ∀ (s : Shared) (H : Hp) (C : Addr) (cl : List (Str × Addr)) (fp : List Addr), PG (X.blk s H scope (compEnvC scope cl C X.env) fp) tg g) (ht : ∀ (s : Shared) (H : Hp) (C : Addr) (cl : List (Str × Addr)) (fp : List Addr), PTs (X.blk s H scope (compEnvC scope cl C X.env) fp) ifs tt)
    (hk : ∀ (s : Shared) (H : Hp) (C : Addr) (cl : List (Str × Addr)) (fp : List Addr), PE (X.blk s H scope (compEnvC scope cl C X.env) fp) kx tk)
    (he : ∀ (s : Shared) (H : Hp) (C : Addr) (cl : List (Str × Addr)) (fp : List Addr), PE (X.blk s H scope (compEnvC scope cl C X.env) fp) vx tv) (hs : ∀ x, foldedSetIterable iter X.env x = pure x)
    (hi1 : ∀ (s : Shared) (H : Hp) (C : Addr) (cl : List (Str × Addr)) (fp : List Addr), PI (X.blk s H scope (compEnvC scope cl C X.env) fp) tg1 iter1 wi1)
    (hg1 : ∀ (s : Shared) (H : Hp) (C : Addr) (cl : List (Str × Addr)) (fp : List Addr), PG (X.blk s H scope (compEnvC scope cl C X.env) fp) tg1 g1)
    (ht1 : ∀ (s : Shared) (H : Hp) (C : Addr) (cl : List (Str × Addr)) (fp : List Addr), PTs (X.blk s H scope (compEnvC scope cl C X.env) fp) ifs1 tt1)
    (hs1 : ∀ env x, foldedSetIterable iter1 env x = pure x)
    (h : tDcT wi g tt wi1 g1 tt1 tk tv (own.map (·.2)) vs1 σ H Q)
    (hRR : ∀ D C s' m H', Inv X pins σ H' s' → Q (.ref D) H' → s'.heap.Ns C m → FpOk X pins H' C → compPost (model X.prog X.w) X.A X.xe use Qf (.ref D) C (.ok .next) s') :
    wpAny (model X.prog X.w) X.A (comprehension (.DictComp kx vx [⟨tg, iter, ifs, 0⟩, ⟨tg1, iter1, ifs1, 0⟩] scope pos) scope X.env pos' newDict false (eval iter X.env) use) Qf X.xe s := by
  have hfree : ∀ y ∈ scope.names, y.2 = .free → ∃ c, X.env.cells.lookup y.1 = some c := fun y hy e => by
    rcases ok.free y hy e with k | k
    · exact I.ok.has _ (.inl k)
    · exact I.ok.has _ (.inr k)
  refine wpAny_comprehension_free (use := use) rfl hs (closure_ok hfree) ok.kind (fun y hy e => by rw [ok.uniq y hy, e])
    (thn (hi.run pins s σ H _ I h) fun xv s1 hx => thn hx fun itv s2 h2 => ?_)
  obtain ⟨it, fp, tn, J, H2, e, I2, T, st2, f2, q⟩ := h2
  subst e
  refine wpAny_newObj_type (newEnv_comp ?_)
  generalize hD : s2.heap.objs.size = D
  have hDn : H2 D = none := I2.hok.fresh (Nat.le_of_eq hD)
  obtain ⟨W, ⟨m0, w0⟩, turn⟩ := q D hDn
  -- the new list
  generalize hs3 : ({ s2 with heap := s2.heap.push { cls := .type "dict", data := .dict #[] } } : Shared) = s3
  have I3 : Inv X pins σ (upd H2 D (.dT [])) s3 := by
    rw [← hs3]
    refine I2.laid (t' := s2.toks) (fun b o e => Heap.get?_push_of_some _ e) (Nat.le_of_eq hD) ?_
    rw [← hD]
    exact dt_empty s2.heap I2.big
  have h3 : s3.heap = s2.heap.push { cls := .type "dict", data := .dict #[] } := by rw [← hs3]
  have sz : ∀ b ∈ fp, b < s2.heap.objs.size := fun b hb => by
    obtain ⟨o, e, _⟩ := T.obj _ _ st2 b hb
    exact Heap.lt_size e
  have f3 : ∀ b ∈ fp, FpOk X pins (upd H2 D (.dT [])) b ∧ b < s3.heap.objs.size := fun b hb => by
    have hlt := sz b hb
    refine ⟨⟨?_, (f2 b hb).2⟩, by rw [h3, Heap.size_push]; exact Nat.lt_succ_of_lt hlt⟩
    rw [upd_ne (by rw [← hD]; exact Nat.ne_of_lt hlt)]
    exact (f2 b hb).1
  have st3 : tn 0 s3.heap := T.keep _ _ _ st2 fun b _ o e => by rw [h3]; exact Heap.get?_push_of_some _ e
  have I4 := block_start I3 ok hN f3
  have pg := hg s3 (upd H2 D (.dT [])) s3.heap.objs.size (cellsFrom (s3.heap.objs.size + 1) scope.names (cloFrom X.env.cells scope.names [])) fp
  have pt := ht s3 (upd H2 D (.dT [])) s3.heap.objs.size (cellsFrom (s3.heap.objs.size + 1) scope.names (cloFrom X.env.cells scope.names [])) fp
  have pk := hk s3 (upd H2 D (.dT [])) s3.heap.objs.size (cellsFrom (s3.heap.objs.size + 1) scope.names (cloFrom X.env.cells scope.names [])) fp
  have pe := he s3 (upd H2 D (.dT [])) s3.heap.objs.size (cellsFrom (s3.heap.objs.size + 1) scope.names (cloFrom X.env.cells scope.names [])) fp
  have pi1 := hi1 s3 (upd H2 D (.dT [])) s3.heap.objs.size (cellsFrom (s3.heap.objs.size + 1) scope.names (cloFrom X.env.cells scope.names [])) fp
  have pg1 := hg1 s3 (upd H2 D (.dT [])) s3.heap.objs.size (cellsFrom (s3.heap.objs.size + 1) scope.names (cloFrom X.env.cells scope.names [])) fp
  have pt1 := ht1 s3 (upd H2 D (.dT [])) s3.heap.objs.size (cellsFrom (s3.heap.objs.size + 1) scope.names (cloFrom X.env.cells scope.names [])) fp
  show codeAny _ _ (.compStart (.DictComp kx vx [⟨tg, iter, ifs, 0⟩, ⟨tg1, iter1, ifs1, 0⟩] scope pos) 0 (.ref it) (.ref D) (compEnvC scope (cellsFrom (s3.heap.objs.size + 1) scope.names (cloFrom X.env.cells scope.names [])) s3.heap.objs.size X.env)) (compPost (model X.prog X.w) X.A X.xe use Qf (.ref D) s3.heap.objs.size) { s3 with heap := pushCells (s3.heap.push { cls := .type "dict", data := .dict #[] }) scope.names }
  have nfp : ∀ b ∈ fp, (upd H2 D (.dT [])) b = none := fun b hb => (f3 b hb).1.1
  generalize hce : compEnvC scope (cellsFrom (s3.heap.objs.size + 1) scope.names (cloFrom X.env.cells scope.names [])) s3.heap.objs.size X.env = ce at I4 pg pt pk pe pi1 pg1 pt1 ⊢
  have cL : ce.locals = s3.heap.objs.size := by subst hce; rfl
  generalize hH3 : upd H2 D (.dT []) = H3 at I3 I4 pg pt pk pe pi1 pg1 pt1 w0 nfp f3
  generalize hs4 : ({ s3 with heap := pushCells (s3.heap.push { cls := .type "dict", data := .dict #[] }) scope.names } : Shared) = s4 at I4 ⊢
  have st4 : tn 0 s4.heap := T.keep _ _ _ st3 fun b _ o e => by rw [← hs4]; exact pushCells_keeps _ _ _ _ (Heap.get?_push_of_some _ e)
  have stat : ∀ {σ' : L2.St} {H' : Hp} {s' : Shared}, Inv (X.blk s3 H3 scope ce fp) [] σ' H' s' → (∀ b ∈ fp, H' b = none) → ∀ b ∈ fp, FpOk (X.blk s3 H3 scope ce fp) [] H' b := fun {σ' H' s'} I' hn b hb =>
    ⟨hn b hb, (I'.ok.exf b hb).1, I'.ok.exfs b hb, .inl hb, fun x c e => (I'.ok.exf b hb).2 x c e, fun p hp => absurd (show p ∈ ([] : List (Addr × Obj)) ++ [] from hp) (by simp)⟩
  have loop : codeAny (model X.prog X.w) X.A (.compLoop (.DictComp kx vx [⟨tg, iter, ifs, 0⟩, ⟨tg1, iter1, ifs1, 0⟩] scope pos) 0 (.ref it) (.ref D) ce) (compPost (model X.prog X.w) X.A X.xe use Qf (.ref D) s3.heap.objs.size) s4 := by
    refine loopD_out (hs1 ce) (fun n s' => ∃ i H', Inv (X.blk s3 H3 scope ce fp) [] (wipe σ (own.map (·.2))) H' s' ∧ tn i s'.heap ∧ (∀ b ∈ fp, H' b = none) ∧ W i n H') ?_ m0 ⟨0, H3, I4, st4, nfp, w0⟩
    rintro n s5 ⟨i, H5, I5, st5, n5, w5⟩
    rcases turn i n H5 w5 with ⟨stop, qq⟩ | ⟨go, Nx, hNx, step⟩
    · have td := T.done (X.blk s3 H3 scope ce fp) rfl rfl rfl hc i [] s5 _ H5 (fun _ _ => False) I5 (stat I5 n5) st5 stop
      refine thnF td fun r s6 ⟨hr, I6⟩ => ?_
      subst hr
      -- back in the def's context
      have I7 : Inv X pins σ H5 s6 := I3.call' (ch := fp) I6.os I6.base I6.hok I6.bare fun b hb => ⟨(f3 b hb).1.2.2.2.1, (f3 b hb).1.2.1, (f3 b hb).1.2.2.2.2.1, (f3 b hb).1.2.2.2.2.2⟩
      have nC : H5 s3.heap.objs.size = none := by
        have z : H5 ce.locals = none := I6.free
        rw [cL] at z
        exact z
      obtain ⟨m, hn, _⟩ := I6.loc
      have hn : s6.heap.Ns ce.locals m := hn
      rw [cL] at hn
      exact hRR D s3.heap.objs.size s6 m H5 I7 qq hn (I3.fpOk (Nat.le_refl _) nC)
    · have ti := T.item (X.blk s3 H3 scope ce fp) rfl rfl rfl hc i [] s5 _ H5 (fun _ _ => False) I5 (stat I5 n5) st5 go
      refine thnF ti fun r s6 ⟨u, hr, h6⟩ => ?_
      subst hr
      refine thnF h6 fun _ s7 ⟨x, H7, I7, r7, y7, st7, n7⟩ => ?_
      have I7' := I7.pinned (stat I7 n7) (T.obj _ _ st7)
      refine thnF (pg.run _ s7 _ H7 x u _ I7' r7 (step x H7 y7)) fun _ s8 ⟨σ8, H8, I8, hw8, q8⟩ => ?_
      refine thnF (pt.run _ s8 σ8 H8 _ I8 q8) fun b s9 ⟨H9, I9, q9⟩ => ?_
      -- the turn's end, from any slots that know what the block knew at its start
      have fin : ∀ {σ9 : L2.St} {s' : Shared} {H' : Hp}, Inv (X.blk s3 H3 scope ce fp) ([] ++ pinsAt fp s7.heap) σ9 H' s' → (wipe σ (own.map (·.2))).length = σ9.length → (∀ (j : Nat) v, (wipe σ (own.map (·.2)))[j]? = some (some v) → σ9[j]? = some (some v)) → Nx H' →
          ∃ m, m < n ∧ ∃ i H', Inv (X.blk s3 H3 scope ce fp) [] (wipe σ (own.map (·.2))) H' s' ∧ tn i s'.heap ∧ (∀ b ∈ fp, H' b = none) ∧ W i m H' := fun {σ9 s' H'} I' hl hk nx => by
        obtain ⟨m', hm, w'⟩ := hNx H' nx
        have pin' : ∀ b ∈ fp, ∀ o, s7.heap.get? b = some o → s'.heap.get? b = some o ∧ H' b = none := fun b hb o e =>
          let z := I'.pin (b, o) (List.mem_append_right _ (List.mem_append_right _ (mem_pinsAt hb e)))
          ⟨z.1, z.2.1⟩
        refine ⟨m', hm, i + 1, H', (I'.unpinned (pins := [])).weak hl hk, T.keep _ _ _ st7 fun b hb o e => (pin' b hb o e).1, fun b hb => ?_, w'⟩
        obtain ⟨o, e, _⟩ := T.obj _ _ st7 b hb
        exact (pin' b hb o e).2
      have hl8 : (wipe σ (own.map (·.2))).length = σ8.length := by rw [← hw8, wipe_length]
      have hk8 : ∀ (j : Nat) v, (wipe σ (own.map (·.2)))[j]? = some (some v) → σ8[j]? = some (some v) := fun j v e => by
        rw [← hw8] at e
        exact (wipe_some e).1
      have hk9 : ∀ (j : Nat) v, (wipe σ (own.map (·.2)))[j]? = some (some v) → (wipe σ8 vs1)[j]? = some (some v) := fun j v e => by
        rw [← hw8] at e
        obtain ⟨e1, e2⟩ := wipe_some e
        rw [wipe_out fun z => e2 (hv j z)]
        exact e1
      cases b with
      | false =>
        simp only [Bool.false_eq_true, if_false] at q9 ⊢
        exact fin I9 hl8 hk8 q9
      | true =>
        simp only [if_true] at q9 ⊢
        refine thnF (pi1.run _ s9 σ8 H9 _ I9 q9) fun xv s10 hx => thnF hx fun itv s11 h11 => ?_
        obtain ⟨it1, fp1, tn1, J1, H11, e1, I11, T1, st11, f11, W1, ⟨m1, w1⟩, turn1⟩ := h11
        subst e1
        -- the inner loop
        have stat1 : ∀ {H' : Hp}, (∀ b ∈ fp1, H' b = none) → ∀ b ∈ fp1, FpOk (X.blk s3 H3 scope ce fp) ([] ++ pinsAt fp s7.heap) H' b := fun hn b hb => ⟨hn b hb, (f11 b hb).2⟩
        have loop1 : codeAny (model X.prog X.w) X.A (.compLoop (.DictComp kx vx [⟨tg, iter, ifs, 0⟩, ⟨tg1, iter1, ifs1, 0⟩] scope pos) 1 (.ref it1) (.ref D) ce)
            (fun r s' => match r with
              | .ok _ => ∃ m, m < n ∧ ∃ i H', Inv (X.blk s3 H3 scope ce fp) [] (wipe σ (own.map (·.2))) H' s' ∧ tn i s'.heap ∧ (∀ b ∈ fp, H' b = none) ∧ W i m H'
              | .error _ => False) s11 := by
          refine loopD_in (fun k s' => ∃ j H', Inv (X.blk s3 H3 scope ce fp) ([] ++ pinsAt fp s7.heap) (wipe σ8 vs1) H' s' ∧ tn1 j s'.heap ∧ (∀ b ∈ fp1, H' b = none) ∧ W1 j k H') ?_ m1 ⟨0, H11, I11.weak (wipe_length _ _) (fun j v e => (wipe_some e).1), st11, fun b hb => (f11 b hb).1, w1⟩
          rintro k s12 ⟨j, H12, I12, st12, n12, w12⟩
          rcases turn1 j k H12 w12 with ⟨stop1, nx1⟩ | ⟨go1, Nx1, hNx1, step1⟩
          · refine thnF (T1.done (X.blk s3 H3 scope ce fp) rfl rfl rfl hc j _ s12 (wipe σ8 vs1) H12 (fun _ _ => False) I12 (stat1 n12) st12 stop1) fun r s13 ⟨hr, I13⟩ => ?_
            subst hr
            exact fin I13 (hl8.trans (wipe_length σ8 vs1).symm) hk9 nx1
          · refine thnF (T1.item (X.blk s3 H3 scope ce fp) rfl rfl rfl hc j _ s12 (wipe σ8 vs1) H12 (fun _ _ => False) I12 (stat1 n12) st12 go1) fun r s13 ⟨u1, hr, h13⟩ => ?_
            subst hr
            refine thnF h13 fun _ s14 ⟨x1, H14, I14, r14, y14, st14, n14⟩ => ?_
            have I14' := I14.pinned (stat1 n14) (T1.obj _ _ st14)
            refine thnF (pg1.run _ s14 (wipe σ8 vs1) H14 x1 u1 _ I14' r14 (step1 x1 H14 y14)) fun _ s15 ⟨σ15, H15, I15, hw15, q15⟩ => ?_
            refine thnF (pt1.run _ s15 σ15 H15 _ I15 q15) fun b1 s16 ⟨H16, I16, q16⟩ => ?_
            have fin1 : ∀ {s' : Shared} {H' : Hp}, Inv (X.blk s3 H3 scope ce fp) (([] ++ pinsAt fp s7.heap) ++ pinsAt fp1 s14.heap) σ15 H' s' → Nx1 H' → ∃ m, m < k ∧ ∃ j H', Inv (X.blk s3 H3 scope ce fp) ([] ++ pinsAt fp s7.heap) (wipe σ8 vs1) H' s' ∧ tn1 j s'.heap ∧ (∀ b ∈ fp1, H' b = none) ∧ W1 j m H' := fun {s' H'} I' nx => by
              obtain ⟨m', hm, w'⟩ := hNx1 H' nx
              have pin' : ∀ b ∈ fp1, ∀ o, s14.heap.get? b = some o → s'.heap.get? b = some o ∧ H' b = none := fun b hb o e =>
                let z := I'.pin (b, o) (List.mem_append_right _ (List.mem_append_right _ (mem_pinsAt hb e)))
                ⟨z.1, z.2.1⟩
              refine ⟨m', hm, j + 1, H', I'.unpinned.weak (by rw [← hw15, wipe_length]) (fun j v e => by rw [← hw15] at e; exact (wipe_some e).1), T1.keep _ _ _ st14 fun b hb o e => (pin' b hb o e).1, fun b hb => ?_, w'⟩
              obtain ⟨o, e, _⟩ := T1.obj _ _ st14 b hb
              exact (pin' b hb o e).2
            cases b1 with
            | false =>
              simp only [Bool.false_eq_true, if_false] at q16 ⊢
              exact fin1 I16 q16
            | true =>
              simp only [if_true] at q16 ⊢
              refine thnF (pk.run _ s16 σ15 H16 _ I16 q16) fun z s17 ⟨yk, H17, I17, r17, q17⟩ => ?_
              refine thnF (pe.run _ s17 σ15 H17 _ I17 q17) fun z2 s18 ⟨yv, H18, I18, r18, kvs, k, b2, ek, hb2, hD18, hz18, nx⟩ => ?_
              subst ek
              exact d_setT (X := X.blk s3 H3 scope ce fp) hu I18 hD18 hb2 hz18 r17 r18 fun s19 I19 => fin1 I19 nx
        exact startD_one loop1 (T1.self X.A 0 _ _ _ st11 loop1)
  exact codeAny_compStart_dict loop (T.self X.A 0 _ _ _ st4 loop)
/-- as a value -/
theorem pe_dcT {kx vx tg iter tg1 iter1 : Expr} {ifs ifs1 : List Expr} {scope : Scope} {own : List (Str × Nat)} {vs1 : List Nat} {pos : Pos} {wi wi1 : TI} {g g1 : TG} {tt tt1 : TT} {tk tv : TE} (hc : X.calm = true) (hu : X.A.units + 1 < cLine) (hN : X.N.Nodup) (hi : PI X tg iter wi) (ok : BlkOk X.N X.env.scope scope own) (hv : ∀ i ∈ vs1, i ∈ own.map (·.2))
    (hg : ∀ (s : Shared) (H : Hp) (C : Addr) (cl : List (Str × Addr)) (fp : List Addr), PG (X.blk s H scope (compEnvC scope cl C X.env) fp) tg g) (ht : ∀ (s : Shared) (H : Hp) (C : Addr) (cl : List (Str × Addr)) (fp : List Addr), PTs (X.blk s H scope (compEnvC scope cl C X.env) fp) ifs tt)
    (hi1 : ∀ (s : Shared) (H : Hp) (C : Addr) (cl : List (Str × Addr)) (fp : List Addr), PI (X.blk s H scope (compEnvC scope cl C X.env) fp) tg1 iter1 wi1)
    (hg1 : ∀ (s : Shared) (H : Hp) (C : Addr) (cl : List (Str × Addr)) (fp : List Addr), PG (X.blk s H scope (compEnvC scope cl C X.env) fp) tg1 g1) (ht1 : ∀ (s : Shared) (H : Hp) (C : Addr) (cl : List (Str × Addr)) (fp : List Addr), PTs (X.blk s H scope (compEnvC scope cl C X.env) fp) ifs1 tt1)
    (hk : ∀ (s : Shared) (H : Hp) (C : Addr) (cl : List (Str × Addr)) (fp : List Addr), PE (X.blk s H scope (compEnvC scope cl C X.env) fp) kx tk)
    (he : ∀ (s : Shared) (H : Hp) (C : Addr) (cl : List (Str × Addr)) (fp : List Addr), PE (X.blk s H scope (compEnvC scope cl C X.env) fp) vx tv) (hs : ∀ x, foldedSetIterable iter X.env x = pure x := by intro _; rfl) (hs1 : ∀ env x, foldedSetIterable iter1 env x = pure x := by intro _ _; rfl) :
    PE X (.DictComp kx vx [⟨tg, iter, ifs, 0⟩, ⟨tg1, iter1, ifs1, 0⟩] scope pos) (tDcT wi g tt wi1 g1 tt1 tk tv (own.map (·.2)) vs1) := by
  refine ⟨fun pins s σ H Q I h => ?_⟩
  rw [arm_eval_DictComp]
  refine dcT_core hc hu hN I hi ok hv hg ht hk he hs hi1 hg1 ht1 hs1 h fun D C s' m H' I' q hn f => ⟨m, hn, fun h'' sb => ?_⟩
  obtain ⟨f0, f1, f2, f3, f4, f5⟩ := f
  exact ⟨.ref D, H', I'.turned (t' := s'.toks) (fun b o hb e => (sb.2 b hb).trans e) f0 f1 f3 f4 f5, rfl, q⟩
end
end SF
namespace SF
open PySem PySem.Spec PyProof.Rows L2
section
variable {α β γ κ : Type} [DecidableEq κ]
def M.dc1 (k : β → M κ) (v : β → M γ) : List β → List (κ × γ) → M (List (κ × γ))
  | [], d => .ok d
  | y :: r, d => (k y).nox.bd fun key => (v y).nox.bd fun val => (M.put d key val).bd fun d' => M.dc1 k v r d'
def M.dc2 (inner : α → M (List β)) (k : α → β → M κ) (v : α → β → M γ) : List α → List (κ × γ) → M (List (κ × γ))
  | [], d => .ok d
  | x :: r, d => (inner x).nox.bd fun ys => (M.dc1 (k x) (v x) ys d).bd fun d' => M.dc2 inner k v r d'
theorem put_ok {d : List (κ × γ)} {k : κ} {x : γ} : (∃ y, M.put d k x = .ok y) ∨ M.put d k x = .bad := gd_or
theorem dc1_or {k : β → M κ} {v : β → M γ} : ∀ (ys : List β) (d : List (κ × γ)), (∃ z, M.dc1 k v ys d = .ok z) ∨ M.dc1 k v ys d = .bad
  | [], d => .inl ⟨_, rfl⟩
  | y :: r, d => by
    unfold M.dc1
    cases k y with
    | bad => exact .inr rfl
    | exc e => exact .inr rfl
    | ok key =>
      cases v y with
      | bad => exact .inr rfl
      | exc e => exact .inr rfl
      | ok val =>
        show (∃ z, (M.put d key val).bd _ = _) ∨ (M.put d key val).bd _ = _
        rcases put_ok (d := d) (k := key) (x := val) with ⟨d', h⟩ | h
        · rw [h]; exact dc1_or r d'
        · rw [h]; exact .inr rfl
theorem dc2_or {inner : α → M (List β)} {k : α → β → M κ} {v : α → β → M γ} : ∀ (xs : List α) (d : List (κ × γ)), (∃ z, M.dc2 inner k v xs d = .ok z) ∨ M.dc2 inner k v xs d = .bad
  | [], d => .inl ⟨_, rfl⟩
  | x :: r, d => by
    unfold M.dc2
    cases inner x with
    | bad => exact .inr rfl
    | exc e => exact .inr rfl
    | ok ys =>
      show (∃ z, (M.dc1 (k x) (v x) ys d).bd _ = _) ∨ (M.dc1 (k x) (v x) ys d).bd _ = _
      rcases dc1_or (k := k x) (v := v x) ys d with ⟨d', h⟩ | h
      · rw [h]; exact dc2_or r d'
      · rw [h]; exact .inr rfl
variable {w w' : Xw} {σ : L2.St} {F H : Hp}
theorem yes_in {A B : Hp → Prop} {σ : L2.St} {H : Hp} (h : A H) : tYes σ H (fun b H3 => if b = true then A H3 else B H3) := by
  show (if true = true then A H else B H)
  exact iteT h
theorem e_dcT2 {wi wi1 : TI} {g g1 : TG} {tk tv : TE} {vs vs1 : List Nat} {r : Rl α} {r1 : Rl β} {rk : Rl κ} [Mono rk] {enc : κ → List Key} [KT rk enc] {rv : Rl γ} [Mono rv] {m : M (List α)} {inner : α → M (List β)} {k : α → β → M κ} {v : α → β → M γ}
    (hi : EvC w (wi σ) (iw r) m F H) (Tg : Hp → α → L2.St → Prop) (hT : ∀ {F F' x σ2}, Same F F' → Tg F x σ2 → Tg F' x σ2)
    (hg : ∀ {x v F4 H4} (Q : L2.St → Hp → Prop), Same F4 H4 → r F4 v x → (∀ σ2, wipe σ2 vs = wipe σ vs → Tg F4 x σ2 → Q σ2 H4) → g v (wipe σ vs) H4 Q)
    (hin : ∀ x σ2 F4 H4, Xt F H F4 H4 → Tg F4 x σ2 → EvC w' (wi1 σ2) (iwF r1) (inner x) F4 H4) (Tg1 : Hp → α → β → L2.St → Prop)
    (hg1 : ∀ {x y σ2 v F4 H4} (Q : L2.St → Hp → Prop), Tg F4 x σ2 → Same F4 H4 → r1 F4 v y → (∀ σ3, wipe σ3 vs1 = wipe σ2 vs1 → Tg1 F4 x y σ3 → Q σ3 H4) → g1 v (wipe σ2 vs1) H4 Q)
    (hk : ∀ x y σ3 F4 H4, Xt F H F4 H4 → Tg1 F4 x y σ3 → EvC w' (tk σ3) (fz rk) (k x y) F4 H4) (hv : ∀ x y σ3 F4 H4, Xt F H F4 H4 → Tg1 F4 x y σ3 → EvC w' (tv σ3) (fz rv) (v x y) F4 H4) :
    EvC w (tDcT wi g tYes wi1 g1 tYes tk tv vs vs1 σ) (dnT enc rv) (m.bd fun xs => M.dc2 inner k v xs []) F H := by
  refine EvC.bind (D := fun J H1 (Q : VK) => ∀ D, H1 D = none → ∃ W : Nat → Nat → Hp → Prop, (∃ m, W 0 m (upd H1 D (.dT []))) ∧ ∀ i m H, W i m H →
    (J.stop i H ∧ Q (.ref D) H) ∨ (J.go i H ∧ ∃ Nx : Hp → Prop, (∀ H', Nx H' → ∃ m', m' < m ∧ W (i + 1) m' H') ∧ ∀ x H', J.yld i H x H' → g x (wipe σ vs) H' fun σ2 H2 => wipe σ2 vs = wipe σ vs ∧ tYes σ2 H2 fun b H3 =>
      if b = true then wi1 σ2 H3 fun J1 H4 => ∃ W1 : Nat → Nat → Hp → Prop, (∃ m, W1 0 m H4) ∧ ∀ j k H, W1 j k H →
        (J1.stop j H ∧ Nx H) ∨ (J1.go j H ∧ ∃ Nx1 : Hp → Prop, (∀ H', Nx1 H' → ∃ k', k' < k ∧ W1 (j + 1) k' H') ∧ ∀ x H', J1.yld j H x H' → g1 x (wipe σ2 vs1) H' fun σ3 H5 => wipe σ3 vs1 = wipe σ2 vs1 ∧ tYes σ3 H5 fun b H6 =>
          if b = true then tk σ3 H6 fun y H7 => tv σ3 H7 fun z H8 => ∃ kvs k b, y = .ref b ∧ H8 b = some (.tup (k.map kV)) ∧ H8 D = some (.dT kvs) ∧ kvs.length < sizeLine ∧ Nx1 (upd H8 D (.dT (putK kvs k z))) else Nx1 H6)
      else Nx H3)) (R' := dnT enc rv) hi fun xs J F1 H1 F2 H2 e1 e2 hw => ?_
  obtain ⟨⟨G, Y, wk, hG, hY⟩, hz⟩ := hw
  have e12 := e1.trans e2
  cases hm : M.dc2 inner k v xs [] with
  | bad => trivial
  | exc e => rcases dc2_or (inner := inner) (k := k) (v := v) xs [] with ⟨z, h⟩ | h <;> rw [h] at hm <;> cases hm
  | ok zs =>
    intro Q q D hD
    refine ⟨fun i n H' => n = xs.length - i ∧ i ≤ xs.length ∧ ∃ F' kvs d, Xt F2 H2 F' H' ∧ F' D = none ∧ H' D = some (.dT kvs) ∧ AD enc rv F' kvs d ∧ d.length ≤ sizeLine ∧ M.dc2 inner k v (xs.drop i) d = .ok zs,
      ⟨xs.length, by simp, Nat.zero_le _, F2, [], [], (Xt.refl e2.fh).newM hD, e2.fh.free hD, upd_same, .nil, Nat.zero_le _, hm⟩, ?_⟩
    rintro i n H4 ⟨rfl, hi, F4, kvs, d, e4, f4, hD4, ad4, hd4, hrs⟩
    by_cases hlt : i < xs.length
    · refine .inr ⟨wk.goes i H4 hlt (hG F4 H4 e4), fun H' => ∃ F' kvs d, Xt F2 H2 F' H' ∧ F' D = none ∧ H' D = some (.dT kvs) ∧ AD enc rv F' kvs d ∧ d.length ≤ sizeLine ∧ M.dc2 inner k v (xs.drop (i + 1)) d = .ok zs,
        fun H' h => ⟨xs.length - (i + 1), by omega, rfl, hlt, h⟩, fun u H5 hy => ?_⟩
      obtain ⟨F5, x, hx, e5, hr⟩ := hY i H4 u H5 F4 hlt e4.ff e4.fh (wk.yields i H4 u H5 hlt (hG F4 H4 e4) hy)
      have f5 : F5 D = none := e5.nf D (by rw [hD4]; trivial) f4
      have hD5 := e5.hh _ _ hD4
      have hdrop : xs.drop i = x :: xs.drop (i + 1) := by
        rw [List.drop_eq_getElem_cons hlt]
        congr 1
        rw [List.getElem?_eq_getElem hlt] at hx
        exact Option.some.inj hx
      rw [hdrop] at hrs
      unfold M.dc2 at hrs
      refine hg _ e5.fh hr fun σ2 hw2 ht => ⟨hw2, yes_in ?_⟩
      have hin1 := hin x σ2 F5 H5 ((e12.trans e4).trans e5) ht F5 H5 (Xt.refl e5.fh)
      cases hix : inner x with
      | bad => rw [hix] at hrs; cases hrs
      | exc e => rw [hix] at hrs; cases hrs
      | ok ys =>
        rw [hix] at hrs hin1
        refine hin1 _ fun J1 F6 H6 e6 hw1 => ?_
        obtain ⟨⟨G1, Y1, wk1, hG1, hY1⟩, hz1⟩ := hw1
        have hrs : ((M.dc1 (k x) (v x) ys d).bd fun d' => M.dc2 inner k v (xs.drop (i + 1)) d') = .ok zs := hrs
        have f6 : F6 D = none := e6.nf D (by rw [hD5]; trivial) f5
        have hD6 := e6.hh _ _ hD5
        have e46 := (e4.trans e5).trans e6
        refine ⟨fun j n H' => n = ys.length - j ∧ j ≤ ys.length ∧ ∃ F' kvs d, Xt F2 H2 F' H' ∧ Same F6 F' ∧ F' D = none ∧ H' D = some (.dT kvs) ∧ AD enc rv F' kvs d ∧ d.length ≤ sizeLine ∧ ((M.dc1 (k x) (v x) (ys.drop j) d).bd fun d' => M.dc2 inner k v (xs.drop (i + 1)) d') = .ok zs,
          ⟨ys.length, by simp, Nat.zero_le _, F6, kvs, d, e46, Same.refl _, f6, hD6, ad4.mono (e5.ff.trans e6.ff), hd4, hrs⟩, ?_⟩
        rintro j n H7 ⟨rfl, hj, F7, kvs7, d7, e7, s67, f7, hD7, ad7, hd7, hrs7⟩
        by_cases hlt1 : j < ys.length
        · refine .inr ⟨wk1.goes j H7 hlt1 (hG1 F7 H7 s67 e7.fh), fun H' => ∃ F' kvs d, Xt F2 H2 F' H' ∧ Same F6 F' ∧ F' D = none ∧ H' D = some (.dT kvs) ∧ AD enc rv F' kvs d ∧ d.length ≤ sizeLine ∧ ((M.dc1 (k x) (v x) (ys.drop (j + 1)) d).bd fun d' => M.dc2 inner k v (xs.drop (i + 1)) d') = .ok zs,
            fun H' h => ⟨ys.length - (j + 1), by omega, rfl, hlt1, h⟩, fun u8 H8 hy8 => ?_⟩
          obtain ⟨F8, y, hx8, e8, hr8⟩ := hY1 j H7 u8 H8 F7 hlt1 s67 e7.fh (wk1.yields j H7 u8 H8 hlt1 (hG1 F7 H7 s67 e7.fh) hy8)
          have f8 : F8 D = none := e8.nf D (by rw [hD7]; trivial) f7
          have hD8 := e8.hh _ _ hD7
          have hdrop8 : ys.drop j = y :: ys.drop (j + 1) := by
            rw [List.drop_eq_getElem_cons hlt1]
            congr 1
            rw [List.getElem?_eq_getElem hlt1] at hx8
            exact Option.some.inj hx8
          rw [hdrop8] at hrs7
          unfold M.dc1 at hrs7
          have e78 := e7.trans e8
          refine hg1 _ (hT ((e5.ff.trans e6.ff).trans (s67.trans e8.ff) |> fun s => (e6.ff.trans (s67.trans e8.ff))) ht) e8.fh hr8 fun σ3 hw3 ht3 => ⟨hw3, yes_in ?_⟩
          have hk1 := hk x y σ3 F8 H8 (e12.trans e78) ht3 F8 H8 (Xt.refl e8.fh)
          have hv1 := hv x y σ3 F8 H8 (e12.trans e78) ht3
          cases hkx : k x y with
          | bad => rw [hkx] at hrs7; cases hrs7
          | exc e => rw [hkx] at hrs7; cases hrs7
          | ok key =>
            rw [hkx] at hrs7 hk1
            refine hk1 _ fun u9 F9 H9 e9 hu9 => ?_
            have hv2 := hv1 F9 H9 e9
            cases hvx : v x y with
            | bad => rw [hvx] at hrs7; cases hrs7
            | exc e => rw [hvx] at hrs7; cases hrs7
            | ok val =>
              rw [hvx] at hrs7 hv2
              refine hv2 _ fun u10 F10 H10 e10 hu10 => ?_
              have hrs7 : (((M.put d7 key val).bd fun d' => M.dc1 (k x) (v x) (ys.drop (j + 1)) d').bd fun d' => M.dc2 inner k v (xs.drop (i + 1)) d') = .ok zs := hrs7
              rcases put_ok (d := d7) (k := key) (x := val) with ⟨d', hp⟩ | hp
              · rw [hp] at hrs7
                obtain ⟨hl, rfl⟩ := gd_ok hp
                obtain ⟨b, rfl, hb⟩ := KT.kt (r := rk) (enc := enc) hu9
                have e710 := (e8.trans e9).trans e10
                have f10 : F10 D = none := e710.nf D (by rw [hD7]; trivial) f7
                have hD10 := e710.hh _ _ hD7
                refine ⟨kvs7, _, b, rfl, e10.fh _ _ (e10.ff _ _ hb), hD10, by rw [ad7.len]; exact hl, F10, _, _, (e7.trans e710).set hD f10, s67.trans e710.ff, f10, upd_same, AD.put (KT.inj (r := rk) (enc := enc)) hu10 (ad7.mono e710.ff), ?_, hrs7⟩
                rw [aPut_length]
                split <;> omega
              · rw [hp] at hrs7; cases hrs7
        · have ej : j = ys.length := by omega
          subst ej
          rw [List.drop_length] at hrs7
          exact .inl ⟨wk1.stops H7 (hG1 F7 H7 s67 e7.fh), F7, kvs7, d7, e7, f7, hD7, ad7, hd7, hrs7⟩
    · have ei : i = xs.length := by omega
      subst ei
      refine .inl ⟨wk.stops H4 (hG F4 H4 e4), ?_⟩
      rw [List.drop_length] at hrs
      injection hrs with hrs
      subst hrs
      exact q _ _ _ e4 ⟨D, kvs, rfl, hD, f4, hD4, ad4, hd4⟩
section
variable {w : Xw} {σ : L2.St} {F H : Hp} {K : PySem.W.Frag} {α : Type}
/-- [*xs, ..] -/
theorem al_star {r : Rl α} [Mono r] {t : TE} {ts : TA} {m : M (List α)} {T : ∀ {γ : Type}, (List α → M γ) → M γ} (ha : EvC w (t σ) (lb r) m F H) (hs : EvA w ts σ (ral r) T F H) :
    EvA w (StX.tStar K t ts) σ (ral r) (fun f => m.bd fun x => T fun xs => f (x ++ xs)) F H := fun F0 H0 e0 ω γ D R' _ f k => by
  refine EvN.bind (D := fun v H Q => ∃ p xs, v = V.ref p ∧ (SqT K H p xs ∨ SqL K H p xs) ∧ ts σ H fun ys H' => D (xs ++ ys) H' Q) (ha F0 H0 e0) fun x v F2 H2 e2 hr => ?_
  obtain ⟨a, vs, rfl, hh, al, hz⟩ := hr
  have key : EvN w (fun H Q => ts σ H fun ys H' => D (vs ++ ys) H' Q) R' (T fun xs => f (x ++ xs)) F2 H2 := hs F2 H2 (e0.trans e2) (fun ys => D (vs ++ ys)) R' (fun xs => f (x ++ xs)) fun xs ys F3 H3 e3 hrs => k (x ++ xs) (vs ++ ys) F3 H3 (e2.trans e3) (Al.app (al.mono e3.ff) hrs)
  cases hn : (T fun xs => f (x ++ xs)) with
  | bad => trivial
  | exc e => rw [hn] at key; exact fun o Q => ⟨a, vs, rfl, .inr (SqL.of hh), key o Q⟩
  | ok y => rw [hn] at key; exact fun Q q => ⟨a, vs, rfl, .inr (SqL.of hh), key Q q⟩
theorem bd_inv {β : Type} {m : M α} {k : α → M β} {y : β} (h : m.bd k = .ok y) : ∃ x, m = .ok x ∧ k x = .ok y := by
  cases m with
  | ok x => exact ⟨x, rfl, h⟩
  | exc e => cases h
  | bad => cases h
theorem EvC.at {ω : Type} {C : Hp → (ω → Hp → Prop) → Prop} {R : Hp → Hp → Hp → ω → α → Prop} {m : M α} {x : α} (h : EvC w C R m F H) (e : m = .ok x) (s : Same F H) {Q : ω → Hp → Prop} (k : ∀ v F2 H2, Xt F H F2 H2 → R H F2 H2 v x → Q v H2) : C H Q := by
  have h1 := h F H (Xt.refl s)
  rw [e] at h1
  exact h1 Q k
end
end
section
variable {X : Cx} {K : PySem.W.Frag}
theorem pa_starK {e : Expr} {es : List Expr} {te : TE} {t : TA} {p : Pos} (he : PE X e te) (hr : PA X es t) (hs : starEach (.Starred e p :: es) X.env = (true, eval e X.env) :: starEach es X.env := by rfl) (h : X.K = K := by rfl) : PA X (.Starred e p :: es) (StX.tStar K te t) := by subst h; exact StX.pa_star he hr hs
end
section
variable {w : Xw} {σ : L2.St} {F H : Hp} {α : Type} {ta : TE}
theorem e_lenDT {κ : Type} [DecidableEq κ] {enc : κ → List Key} {r : Rl α} [Mono r] {m : M (List (κ × α))} (ha : EvC w (ta σ) (dbT enc r) m F H) : EvC w (tCB L2.rLenT (tCons ta tNil) σ) (fz rNat) (m.bd fun x => .ok x.length) F H :=
  e_cb1 ha (fun _ => .inl ⟨_, rfl⟩) fun hz h1 s Q q => by
    cases hz
    obtain ⟨a, vs, rfl, e, al, _⟩ := h1
    exact ⟨a, vs, rfl, e, by rw [al.len]; exact q _ _ _ (Xt.refl s) rfl⟩
end
end SF
/-! ### {x for a in xs for b in ys}, texts -/
namespace SF
open PySem PySem.Spec PyProof.Rows L2 PySem.Froz
theorem addT_ok {X : Cx} {pins : List (Addr × Obj)} {σ : L2.St} {H : Hp} {s : Shared} {E : Value → Shared → Prop} {D : Addr} {l : List Str} {k : Str} {u : Tok} {Q : Value → Shared → Prop} (I : Inv X pins σ H s) (hD : H D = some (TSO X.prog X.w D l)) (room : l.length + 1 < scanBound)
    (h : ∀ s', Inv X pins σ (upd H D (TSO X.prog X.w D (if k ∈ l then l else k :: l))) s' → Q .none s') : wpAny (model X.prog X.w) X.A (call (.builtin "set.add") [.ref D, .str k u]) Q E s := by
  have R : TS X.prog X.w s.heap D l := (I.hok D _ hD).1
  have hS : s.TypeIs (.ref D) "set" := by
    obtain ⟨D0, ho, _⟩ := R
    exact ⟨_, ho, rfl⟩
  refine wpAny_call_entry F.slot_set_add hS F.entry_set_add ?_ (F.args_set_add_2 _ _)
  unfold Builtin.«set.add» Builtin.Frozenset.oneOther
  simp only [List.isEmpty_nil, bind_assoc]
  unfold Builtin.Frozenset.addrOf setAdd
  refine wpAny_bind (wpAny_pure ?_)
  try dsimp only
  refine wpAny_bind (wpAny_pure ?_)
  try dsimp only
  refine wpAny_bind ?_
  refine wpAny_holding ?_
  refine wpAny_bind ((strKind X.prog X.w).pyHash (is_str k u) ?_)
  refine TS.add (s := { s with toks := s.toks + 1 }) R room fun b h' sb new => ?_
  have he : ∃ z, h'.get? D = some z := by
    have ⟨D1, ho, _⟩ := new
    exact ⟨_, ho⟩
  show wpAny _ _ (ret Value.none) _ _ _
  exact wpAny_pure ⟨_, rfl, h _ (I.write (e := D) (t' := s.toks + 1) (by rw [hD]; trivial) (.inl rfl) (fun b z hb hu => (sb.2 b hb).trans hu) he (tso_ok new))⟩
theorem turnZ_out (ex t0 i0 t1 i1 : Expr) (ifs0 ifs1 : List Expr) (scope : Scope) (pos : Pos) (it : Value) (D : Addr) (env : Env) :
    compTurn (.SetComp ex [⟨t0, i0, ifs0, 0⟩, ⟨t1, i1, ifs1, 0⟩] scope pos) 0 it (.ref D) env = (do
      standAt i0.pos
      match ← pyNext it with
      | none => pure (.done .next)
      | some v =>
        letOwnedTupleGo t0 it v
        assign t0 env v
        let mut ok := true
        for c in ifs0 do
          if ok then ok ← isTrue c env (eval c env)
        if ok then
          let x ← eval i1 env
          standAt i1.pos
          let x ← foldedSetIterable i1 env x
          let _ ← runOwn (.compStart (.SetComp ex [⟨t0, i0, ifs0, 0⟩, ⟨t1, i1, ifs1, 0⟩] scope pos) 1 (← holding [x] (pyIter x)) (.ref D) env) env
        again (.compLoop (.SetComp ex [⟨t0, i0, ifs0, 0⟩, ⟨t1, i1, ifs1, 0⟩] scope pos) 0 it (.ref D) env)) := by rfl
theorem turnZ_in (ex t0 i0 t1 i1 : Expr) (ifs0 ifs1 : List Expr) (scope : Scope) (pos : Pos) (it : Value) (D : Addr) (env : Env) :
    compTurn (.SetComp ex [⟨t0, i0, ifs0, 0⟩, ⟨t1, i1, ifs1, 0⟩] scope pos) 1 it (.ref D) env = (do
      standAt i1.pos
      match ← pyNext it with
      | none => pure (.done .next)
      | some v =>
        letOwnedTupleGo t1 it v
        assign t1 env v
        let mut ok := true
        for c in ifs1 do
          if ok then ok ← isTrue c env (eval c env)
        if ok then
          (do let v ← eval ex env; standAt ex.pos; let _ ← call (.builtin "set.add") [.ref D, v])
        again (.compLoop (.SetComp ex [⟨t0, i0, ifs0, 0⟩, ⟨t1, i1, ifs1, 0⟩] scope pos) 1 it (.ref D) env)) := by rfl

section
variable {prog : Program} {w : World} {A : Around} {R : Result → Shared → Prop} {s : Shared} {ex t0 i0 t1 i1 : Expr} {ifs0 ifs1 : List Expr} {scope : Scope} {pos : Pos} {it : Value} {D : Addr} {env : Env}
/-- the loop of the first clause -/
theorem loopZ_out (hs : ∀ x, foldedSetIterable i1 env x = pure x) (I : Nat → Shared → Prop)
    (turn : ∀ n s, I n s → wpAny (model prog w) A (pyNext it) (fun r s₁ => match r with
      | none => R (.ok .next) s₁
      | some v => wpAny (model prog w) A (letOwnedTupleGo t0 it v) (fun _ s₁' => wpAny (model prog w) A (assign t0 env v) (fun _ s₂ =>
          wpAny (model prog w) A (forIn ifs0 true fun c r => if r = true then do let ok ← isTrue c env (eval c env); pure (ForInStep.yield ok) else pure (ForInStep.yield r)) (fun ok s₃ =>
            if ok = true then wpAny (model prog w) A (eval i1 env) (fun x s₄ => wpAny (model prog w) A (pyIter x) (fun it1 s₅ =>
              codeAny (model prog w) A (.compStart (.SetComp ex [⟨t0, i0, ifs0, 0⟩, ⟨t1, i1, ifs1, 0⟩] scope pos) 1 it1 (.ref D) env) (fun r s' => match r with
                | .ok _ => ∃ m, m < n ∧ I m s'
                | .error _ => False) s₅) (notedBy (model prog w) A env fun e s' => R (.error e) s') s₄) (notedBy (model prog w) A env fun e s' => R (.error e) s') s₃
            else ∃ m, m < n ∧ I m s₃) (notedBy (model prog w) A env fun e s' => R (.error e) s') s₂) (notedBy (model prog w) A env fun e s' => R (.error e) s') s₁') (notedBy (model prog w) A env fun e s' => R (.error e) s') s₁) (notedBy (model prog w) A env fun e s' => R (.error e) s') s)
    (n : Nat) (h : I n s) :
    codeAny (model prog w) A (.compLoop (.SetComp ex [⟨t0, i0, ifs0, 0⟩, ⟨t1, i1, ifs1, 0⟩] scope pos) 0 it (.ref D) env) R s := by
  refine codeAny_loop rfl I (fun n s hI => ?_) n h
  show wpAny _ A ((compTurn (.SetComp ex [⟨t0, i0, ifs0, 0⟩, ⟨t1, i1, ifs1, 0⟩] scope pos) 0 it (.ref D) env).onRaise (fun x => do noteFrame x env; theTreesLotGoes x)) _ _ s
  refine wpAny_noted ?_
  rw [turnZ_out]
  refine wpAny_bind (wpAny_standAt (wpAny_bind (wpAny_mono (turn n s hI) (fun r s₁ h₁ => ?_) fun _ _ h' => h')))
  cases r with
  | none => exact wpAny_pure h₁
  | some v =>
    refine wpAny_bind (wpAny_mono h₁ (fun _ s₁' h₁' => ?_) fun _ _ h' => h')
    refine wpAny_bind (wpAny_mono h₁' (fun _ s₂ h₂ => wpAny_bind (wpAny_mono h₂ (fun ok s₃ h₃ => ?_) fun _ _ h' => h')) fun _ _ h' => h')
    cases ok with
    | false => exact wpAny_pure ⟨rfl, h₃⟩
    | true =>
      refine wpAny_bind (wpAny_mono h₃ (fun x s₄ h₄ => ?_) fun _ _ h' => h')
      refine wpAny_bind (wpAny_standAt (wpAny_bind (wpAny_of_eq (hs x) (wpAny_bind (wpAny_holding (wpAny_mono h₄ (fun it1 s₅ h₅ => ?_) fun _ _ h' => h'))))))
      refine wpAny_bind (wpAny_runOwn ?_)
      rw [Around.mark_none]
      refine codeAny_mono h₅ fun r s' hr => ?_
      cases r with
      | ok f =>
        first
          | exact wpAny_pure ⟨rfl, hr⟩
          | exact wpAny_bind (wpAny_pure (wpAny_pure ⟨rfl, hr⟩))
      | error e => exact hr.elim
/-- the loop of the second -/
theorem loopZ_in (I : Nat → Shared → Prop)
    (turn : ∀ n s, I n s → wpAny (model prog w) A (pyNext it) (fun r s₁ => match r with
      | none => R (.ok .next) s₁
      | some v => wpAny (model prog w) A (letOwnedTupleGo t1 it v) (fun _ s₁' => wpAny (model prog w) A (assign t1 env v) (fun _ s₂ =>
          wpAny (model prog w) A (forIn ifs1 true fun c r => if r = true then do let ok ← isTrue c env (eval c env); pure (ForInStep.yield ok) else pure (ForInStep.yield r)) (fun ok s₃ =>
            if ok = true then wpAny (model prog w) A (eval ex env) (fun x s₄ =>
              wpAny (model prog w) A (call (.builtin "set.add") [.ref D, x]) (fun _ s₅ => ∃ m, m < n ∧ I m s₅) (notedBy (model prog w) A env fun e s' => R (.error e) s') s₄) (notedBy (model prog w) A env fun e s' => R (.error e) s') s₃
            else ∃ m, m < n ∧ I m s₃) (notedBy (model prog w) A env fun e s' => R (.error e) s') s₂) (notedBy (model prog w) A env fun e s' => R (.error e) s') s₁') (notedBy (model prog w) A env fun e s' => R (.error e) s') s₁) (notedBy (model prog w) A env fun e s' => R (.error e) s') s)
    (n : Nat) (h : I n s) :
    codeAny (model prog w) A (.compLoop (.SetComp ex [⟨t0, i0, ifs0, 0⟩, ⟨t1, i1, ifs1, 0⟩] scope pos) 1 it (.ref D) env) R s := by
  refine codeAny_loop rfl I (fun n s hI => ?_) n h
  show wpAny _ A ((compTurn (.SetComp ex [⟨t0, i0, ifs0, 0⟩, ⟨t1, i1, ifs1, 0⟩] scope pos) 1 it (.ref D) env).onRaise (fun x => do noteFrame x env; theTreesLotGoes x)) _ _ s
  refine wpAny_noted ?_
  rw [turnZ_in]
  refine wpAny_bind (wpAny_standAt (wpAny_bind (wpAny_mono (turn n s hI) (fun r s₁ h₁ => ?_) fun _ _ h' => h')))
  cases r with
  | none => exact wpAny_pure h₁
  | some v =>
    refine wpAny_bind (wpAny_mono h₁ (fun _ s₁' h₁' => ?_) fun _ _ h' => h')
    refine wpAny_bind (wpAny_mono h₁' (fun _ s₂ h₂ => wpAny_bind (wpAny_mono h₂ (fun ok s₃ h₃ => ?_) fun _ _ h' => h')) fun _ _ h' => h')
    cases ok with
    | false => exact wpAny_pure ⟨rfl, h₃⟩
    | true =>
      exact wpAny_bind (wpAny_bind (wpAny_mono h₃ (fun x s₄ h₄ => wpAny_bind (wpAny_standAt (wpAny_bind (wpAny_mono h₄ (fun _ s₅ h₅ => wpAny_pure (wpAny_pure ⟨rfl, h₅⟩)) fun _ _ h' => h')))) fun _ _ h' => h'))
/-- the second clause's start -/
theorem startZ_one (h0 : codeAny (model prog w) A (.compLoop (.SetComp ex [⟨t0, i0, ifs0, 0⟩, ⟨t1, i1, ifs1, 0⟩] scope pos) 1 it (.ref D) env) R s)
    (h : wpAny (model prog w) A (pyIter it) (fun it' s' => codeAny (model prog w) A (.compLoop (.SetComp ex [⟨t0, i0, ifs0, 0⟩, ⟨t1, i1, ifs1, 0⟩] scope pos) 1 it' (.ref D) env) R s')
      (notedBy (model prog w) A env fun x s' => R (.error x) s') s) :
    codeAny (model prog w) A (.compStart (.SetComp ex [⟨t0, i0, ifs0, 0⟩, ⟨t1, i1, ifs1, 0⟩] scope pos) 1 it (.ref D) env) R s := by
  refine codeAny_of_tree ?_
  show wpAny _ _ ((compStart (.SetComp ex [⟨t0, i0, ifs0, 0⟩, ⟨t1, i1, ifs1, 0⟩] scope pos) 1 it (.ref D) env).onRaise (fun x => do noteFrame x env; standAt theWindowsPlace)) _ _ s
  refine wpAny_notedAt ?_
  unfold compStart
  show wpAny _ _ (ask >>= _) _ _ s
  refine wpAny_bind (wpAny_askSetting (wpAny_ite ?_))
  split
  · first
      | exact wpAny_bind (wpAny_pure (wpAny_pure (And.intro rfl h0)))
      | exact wpAny_pure (And.intro rfl h0)
  · first
      | exact wpAny_bind (wpAny_rule (wpAny_bind (wpAny_standAt (wpAny_bind (wpAny_mono h (fun it' s' h' => wpAny_pure (And.intro rfl h')) fun _ _ x => x)))))
      | (refine wpAny_bind (wpAny_rule ?_); show wpAny _ _ (standAt i1.pos >>= _) _ _ s; exact wpAny_bind (wpAny_standAt (wpAny_bind (wpAny_mono h (fun it' s' h' => wpAny_pure (And.intro rfl h')) fun _ _ x => x))))
end

section
variable {X : Cx}
def tScT (P : Program) (w : World) (wi : TI) (g : TG) (tt : TT) (wi1 : TI) (g1 : TG) (tt1 : TT) (te : TE) (vs vs1 : List Nat) : TE := fun σ H Q => wi σ H fun J H1 => ∀ D, H1 D = none → ∃ W : Nat → Nat → Hp → Prop, (∃ m, W 0 m (upd H1 D (TSO P w D []))) ∧ ∀ i m H, W i m H →
  (J.stop i H ∧ Q (.ref D) H) ∨ (J.go i H ∧ ∃ Nx : Hp → Prop, (∀ H', Nx H' → ∃ m', m' < m ∧ W (i + 1) m' H') ∧ ∀ x H', J.yld i H x H' → g x (wipe σ vs) H' fun σ2 H2 => wipe σ2 vs = wipe σ vs ∧ tt σ2 H2 fun b H3 =>
    if b = true then wi1 σ2 H3 fun J1 H4 => ∃ W1 : Nat → Nat → Hp → Prop, (∃ m, W1 0 m H4) ∧ ∀ j k H, W1 j k H →
      (J1.stop j H ∧ Nx H) ∨ (J1.go j H ∧ ∃ Nx1 : Hp → Prop, (∀ H', Nx1 H' → ∃ k', k' < k ∧ W1 (j + 1) k' H') ∧ ∀ x H', J1.yld j H x H' → g1 x (wipe σ2 vs1) H' fun σ3 H5 => wipe σ3 vs1 = wipe σ2 vs1 ∧ tt1 σ3 H5 fun b H6 =>
        if b = true then te σ3 H6 fun y H7 => ∃ l k, y = V.str k ∧ H7 D = some (TSO P w D l) ∧ l.length + 1 < scanBound ∧ Nx1 (upd H7 D (TSO P w D (if k ∈ l then l else k :: l))) else Nx1 H6)
    else Nx H3)
theorem scT_core {pins : List (Addr × Obj)} {s : Shared} {σ : L2.St} {H : Hp} {Q : VK} {ex tg iter tg1 iter1 : Expr} {ifs ifs1 : List Expr} {scope : Scope} {own : List (Str × Nat)} {vs1 : List Nat} {pos pos' : Pos} {wi wi1 : TI} {g g1 : TG} {tt tt1 : TT} {te : TE} {use : Option (Value → Sem Unit)} {Qf : Value → Shared → Prop}
    (hc : X.calm = true) (hN : X.N.Nodup) (I : Inv X pins σ H s) (hi : PI X tg iter wi) (ok : BlkOk X.N X.env.scope scope own) (hv : ∀ i ∈ vs1, i ∈ own.map (·.2))
    (hg : ∀ (s : Shared) (H : Hp) (C : Addr) (cl : List (Str × Addr)) (fp : List Addr), PG (X.blk s H scope (compEnvC scope cl C X.env) fp) tg g) (ht : ∀ (s : Shared) (H : Hp) (C : Addr) (cl : List (Str × Addr)) (fp : List Addr), PTs (X.blk s H scope (compEnvC scope cl C X.env) fp) ifs tt)
    (he : ∀ (s : Shared) (H : Hp) (C : Addr) (cl : List (Str × Addr)) (fp : List Addr), PE (X.blk s H scope (compEnvC scope cl C X.env) fp) ex te) (hs : ∀ x, foldedSetIterable iter X.env x = pure x)
    (hi1 : ∀ (s : Shared) (H : Hp) (C : Addr) (cl : List (Str × Addr)) (fp : List Addr), PI (X.blk s H scope (compEnvC scope cl C X.env) fp) tg1 iter1 wi1)
    (hg1 : ∀ (s : Shared) (H : Hp) (C : Addr) (cl : List (Str × Addr)) (fp : List Addr), PG (X.blk s H scope (compEnvC scope cl C X.env) fp) tg1 g1)
    (ht1 : ∀ (s : Shared) (H : Hp) (C : Addr) (cl : List (Str × Addr)) (fp : List Addr), PTs (X.blk s H scope (compEnvC scope cl C X.env) fp) ifs1 tt1)
    (hs1 : ∀ env x, foldedSetIterable iter1 env x = pure x)
    (h : tScT X.prog X.w wi g tt wi1 g1 tt1 te (own.map (·.2)) vs1 σ H Q)
    (hRR : ∀ D C s' m H', Inv X pins σ H' s' → Q (.ref D) H' → s'.heap.Ns C m → FpOk X pins H' C → compPost (model X.prog X.w) X.A X.xe use Qf (.ref D) C (.ok .next) s') :
    wpAny (model X.prog X.w) X.A (comprehension (.SetComp ex [⟨tg, iter, ifs, 0⟩, ⟨tg1, iter1, ifs1, 0⟩] scope pos) scope X.env pos' (newSet (.type "set")) false (eval iter X.env) use) Qf X.xe s := by
  have hfree : ∀ y ∈ scope.names, y.2 = .free → ∃ c, X.env.cells.lookup y.1 = some c := fun y hy e => by
    rcases ok.free y hy e with k | k
    · exact I.ok.has _ (.inl k)
    · exact I.ok.has _ (.inr k)
  refine wpAny_comprehension_free (use := use) rfl hs (closure_ok hfree) ok.kind (fun y hy e => by rw [ok.uniq y hy, e])
    (thn (hi.run pins s σ H _ I h) fun xv s1 hx => thn hx fun itv s2 h2 => ?_)
  obtain ⟨it, fp, tn, J, H2, e, I2, T, st2, f2, q⟩ := h2
  subst e
  refine PpSet.newSet_ok (newEnv_comp ?_)
  generalize hD : s2.heap.objs.size = D
  have hDn : H2 D = none := I2.hok.fresh (Nat.le_of_eq hD)
  obtain ⟨W, ⟨m0, w0⟩, turn⟩ := q D hDn
  -- the new list
  generalize hs3 : ({ s2 with heap := s2.heap.push (set0 X.w) } : Shared) = s3
  have I3 : Inv X pins σ (upd H2 D (TSO X.prog X.w D [])) s3 := by
    rw [← hs3]
    refine I2.laid (t' := s2.toks) (fun b o e => Heap.get?_push_of_some _ e) (Nat.le_of_eq hD) ?_
    rw [← hD]
    exact tso_ok (TS.fresh (Heap.get?_push_size _ rfl))
  have h3 : s3.heap = s2.heap.push (set0 X.w) := by rw [← hs3]
  have sz : ∀ b ∈ fp, b < s2.heap.objs.size := fun b hb => by
    obtain ⟨o, e, _⟩ := T.obj _ _ st2 b hb
    exact Heap.lt_size e
  have f3 : ∀ b ∈ fp, FpOk X pins (upd H2 D (TSO X.prog X.w D [])) b ∧ b < s3.heap.objs.size := fun b hb => by
    have hlt := sz b hb
    refine ⟨⟨?_, (f2 b hb).2⟩, by rw [h3, Heap.size_push]; exact Nat.lt_succ_of_lt hlt⟩
    rw [upd_ne (by rw [← hD]; exact Nat.ne_of_lt hlt)]
    exact (f2 b hb).1
  have st3 : tn 0 s3.heap := T.keep _ _ _ st2 fun b _ o e => by rw [h3]; exact Heap.get?_push_of_some _ e
  have I4 := block_start I3 ok hN f3
  have pg := hg s3 (upd H2 D (TSO X.prog X.w D [])) s3.heap.objs.size (cellsFrom (s3.heap.objs.size + 1) scope.names (cloFrom X.env.cells scope.names [])) fp
  have pt := ht s3 (upd H2 D (TSO X.prog X.w D [])) s3.heap.objs.size (cellsFrom (s3.heap.objs.size + 1) scope.names (cloFrom X.env.cells scope.names [])) fp
  have pe := he s3 (upd H2 D (TSO X.prog X.w D [])) s3.heap.objs.size (cellsFrom (s3.heap.objs.size + 1) scope.names (cloFrom X.env.cells scope.names [])) fp
  have pi1 := hi1 s3 (upd H2 D (TSO X.prog X.w D [])) s3.heap.objs.size (cellsFrom (s3.heap.objs.size + 1) scope.names (cloFrom X.env.cells scope.names [])) fp
  have pg1 := hg1 s3 (upd H2 D (TSO X.prog X.w D [])) s3.heap.objs.size (cellsFrom (s3.heap.objs.size + 1) scope.names (cloFrom X.env.cells scope.names [])) fp
  have pt1 := ht1 s3 (upd H2 D (TSO X.prog X.w D [])) s3.heap.objs.size (cellsFrom (s3.heap.objs.size + 1) scope.names (cloFrom X.env.cells scope.names [])) fp
  show codeAny _ _ (.compStart (.SetComp ex [⟨tg, iter, ifs, 0⟩, ⟨tg1, iter1, ifs1, 0⟩] scope pos) 0 (.ref it) (.ref D) (compEnvC scope (cellsFrom (s3.heap.objs.size + 1) scope.names (cloFrom X.env.cells scope.names [])) s3.heap.objs.size X.env)) (compPost (model X.prog X.w) X.A X.xe use Qf (.ref D) s3.heap.objs.size) { s3 with heap := pushCells (s3.heap.push { cls := .type "dict", data := .dict #[] }) scope.names }
  have nfp : ∀ b ∈ fp, (upd H2 D (TSO X.prog X.w D [])) b = none := fun b hb => (f3 b hb).1.1
  generalize hce : compEnvC scope (cellsFrom (s3.heap.objs.size + 1) scope.names (cloFrom X.env.cells scope.names [])) s3.heap.objs.size X.env = ce at I4 pg pt pe pi1 pg1 pt1 ⊢
  have cL : ce.locals = s3.heap.objs.size := by subst hce; rfl
  generalize hH3 : upd H2 D (TSO X.prog X.w D []) = H3 at I3 I4 pg pt pe pi1 pg1 pt1 w0 nfp f3
  generalize hs4 : ({ s3 with heap := pushCells (s3.heap.push { cls := .type "dict", data := .dict #[] }) scope.names } : Shared) = s4 at I4 ⊢
  have st4 : tn 0 s4.heap := T.keep _ _ _ st3 fun b _ o e => by rw [← hs4]; exact pushCells_keeps _ _ _ _ (Heap.get?_push_of_some _ e)
  have stat : ∀ {σ' : L2.St} {H' : Hp} {s' : Shared}, Inv (X.blk s3 H3 scope ce fp) [] σ' H' s' → (∀ b ∈ fp, H' b = none) → ∀ b ∈ fp, FpOk (X.blk s3 H3 scope ce fp) [] H' b := fun {σ' H' s'} I' hn b hb =>
    ⟨hn b hb, (I'.ok.exf b hb).1, I'.ok.exfs b hb, .inl hb, fun x c e => (I'.ok.exf b hb).2 x c e, fun p hp => absurd (show p ∈ ([] : List (Addr × Obj)) ++ [] from hp) (by simp)⟩
  have loop : codeAny (model X.prog X.w) X.A (.compLoop (.SetComp ex [⟨tg, iter, ifs, 0⟩, ⟨tg1, iter1, ifs1, 0⟩] scope pos) 0 (.ref it) (.ref D) ce) (compPost (model X.prog X.w) X.A X.xe use Qf (.ref D) s3.heap.objs.size) s4 := by
    refine loopZ_out (hs1 ce) (fun n s' => ∃ i H', Inv (X.blk s3 H3 scope ce fp) [] (wipe σ (own.map (·.2))) H' s' ∧ tn i s'.heap ∧ (∀ b ∈ fp, H' b = none) ∧ W i n H') ?_ m0 ⟨0, H3, I4, st4, nfp, w0⟩
    rintro n s5 ⟨i, H5, I5, st5, n5, w5⟩
    rcases turn i n H5 w5 with ⟨stop, qq⟩ | ⟨go, Nx, hNx, step⟩
    · have td := T.done (X.blk s3 H3 scope ce fp) rfl rfl rfl hc i [] s5 _ H5 (fun _ _ => False) I5 (stat I5 n5) st5 stop
      refine thnF td fun r s6 ⟨hr, I6⟩ => ?_
      subst hr
      -- back in the def's context
      have I7 : Inv X pins σ H5 s6 := I3.call' (ch := fp) I6.os I6.base I6.hok I6.bare fun b hb => ⟨(f3 b hb).1.2.2.2.1, (f3 b hb).1.2.1, (f3 b hb).1.2.2.2.2.1, (f3 b hb).1.2.2.2.2.2⟩
      have nC : H5 s3.heap.objs.size = none := by
        have z : H5 ce.locals = none := I6.free
        rw [cL] at z
        exact z
      obtain ⟨m, hn, _⟩ := I6.loc
      have hn : s6.heap.Ns ce.locals m := hn
      rw [cL] at hn
      exact hRR D s3.heap.objs.size s6 m H5 I7 qq hn (I3.fpOk (Nat.le_refl _) nC)
    · have ti := T.item (X.blk s3 H3 scope ce fp) rfl rfl rfl hc i [] s5 _ H5 (fun _ _ => False) I5 (stat I5 n5) st5 go
      refine thnF ti fun r s6 ⟨u, hr, h6⟩ => ?_
      subst hr
      refine thnF h6 fun _ s7 ⟨x, H7, I7, r7, y7, st7, n7⟩ => ?_
      have I7' := I7.pinned (stat I7 n7) (T.obj _ _ st7)
      refine thnF (pg.run _ s7 _ H7 x u _ I7' r7 (step x H7 y7)) fun _ s8 ⟨σ8, H8, I8, hw8, q8⟩ => ?_
      refine thnF (pt.run _ s8 σ8 H8 _ I8 q8) fun b s9 ⟨H9, I9, q9⟩ => ?_
      -- the turn's end, from any slots that know what the block knew at its start
      have fin : ∀ {σ9 : L2.St} {s' : Shared} {H' : Hp}, Inv (X.blk s3 H3 scope ce fp) ([] ++ pinsAt fp s7.heap) σ9 H' s' → (wipe σ (own.map (·.2))).length = σ9.length → (∀ (j : Nat) v, (wipe σ (own.map (·.2)))[j]? = some (some v) → σ9[j]? = some (some v)) → Nx H' →
          ∃ m, m < n ∧ ∃ i H', Inv (X.blk s3 H3 scope ce fp) [] (wipe σ (own.map (·.2))) H' s' ∧ tn i s'.heap ∧ (∀ b ∈ fp, H' b = none) ∧ W i m H' := fun {σ9 s' H'} I' hl hk nx => by
        obtain ⟨m', hm, w'⟩ := hNx H' nx
        have pin' : ∀ b ∈ fp, ∀ o, s7.heap.get? b = some o → s'.heap.get? b = some o ∧ H' b = none := fun b hb o e =>
          let z := I'.pin (b, o) (List.mem_append_right _ (List.mem_append_right _ (mem_pinsAt hb e)))
          ⟨z.1, z.2.1⟩
        refine ⟨m', hm, i + 1, H', (I'.unpinned (pins := [])).weak hl hk, T.keep _ _ _ st7 fun b hb o e => (pin' b hb o e).1, fun b hb => ?_, w'⟩
        obtain ⟨o, e, _⟩ := T.obj _ _ st7 b hb
        exact (pin' b hb o e).2
      have hl8 : (wipe σ (own.map (·.2))).length = σ8.length := by rw [← hw8, wipe_length]
      have hk8 : ∀ (j : Nat) v, (wipe σ (own.map (·.2)))[j]? = some (some v) → σ8[j]? = some (some v) := fun j v e => by
        rw [← hw8] at e
        exact (wipe_some e).1
      have hk9 : ∀ (j : Nat) v, (wipe σ (own.map (·.2)))[j]? = some (some v) → (wipe σ8 vs1)[j]? = some (some v) := fun j v e => by
        rw [← hw8] at e
        obtain ⟨e1, e2⟩ := wipe_some e
        rw [wipe_out fun z => e2 (hv j z)]
        exact e1
      cases b with
      | false =>
        simp only [Bool.false_eq_true, if_false] at q9 ⊢
        exact fin I9 hl8 hk8 q9
      | true =>
        simp only [if_true] at q9 ⊢
        refine thnF (pi1.run _ s9 σ8 H9 _ I9 q9) fun xv s10 hx => thnF hx fun itv s11 h11 => ?_
        obtain ⟨it1, fp1, tn1, J1, H11, e1, I11, T1, st11, f11, W1, ⟨m1, w1⟩, turn1⟩ := h11
        subst e1
        -- the inner loop
        have stat1 : ∀ {H' : Hp}, (∀ b ∈ fp1, H' b = none) → ∀ b ∈ fp1, FpOk (X.blk s3 H3 scope ce fp) ([] ++ pinsAt fp s7.heap) H' b := fun hn b hb => ⟨hn b hb, (f11 b hb).2⟩
        have loop1 : codeAny (model X.prog X.w) X.A (.compLoop (.SetComp ex [⟨tg, iter, ifs, 0⟩, ⟨tg1, iter1, ifs1, 0⟩] scope pos) 1 (.ref it1) (.ref D) ce)
            (fun r s' => match r with
              | .ok _ => ∃ m, m < n ∧ ∃ i H', Inv (X.blk s3 H3 scope ce fp) [] (wipe σ (own.map (·.2))) H' s' ∧ tn i s'.heap ∧ (∀ b ∈ fp, H' b = none) ∧ W i m H'
              | .error _ => False) s11 := by
          refine loopZ_in (fun k s' => ∃ j H', Inv (X.blk s3 H3 scope ce fp) ([] ++ pinsAt fp s7.heap) (wipe σ8 vs1) H' s' ∧ tn1 j s'.heap ∧ (∀ b ∈ fp1, H' b = none) ∧ W1 j k H') ?_ m1 ⟨0, H11, I11.weak (wipe_length _ _) (fun j v e => (wipe_some e).1), st11, fun b hb => (f11 b hb).1, w1⟩
          rintro k s12 ⟨j, H12, I12, st12, n12, w12⟩
          rcases turn1 j k H12 w12 with ⟨stop1, nx1⟩ | ⟨go1, Nx1, hNx1, step1⟩
          · refine thnF (T1.done (X.blk s3 H3 scope ce fp) rfl rfl rfl hc j _ s12 (wipe σ8 vs1) H12 (fun _ _ => False) I12 (stat1 n12) st12 stop1) fun r s13 ⟨hr, I13⟩ => ?_
            subst hr
            exact fin I13 (hl8.trans (wipe_length σ8 vs1).symm) hk9 nx1
          · refine thnF (T1.item (X.blk s3 H3 scope ce fp) rfl rfl rfl hc j _ s12 (wipe σ8 vs1) H12 (fun _ _ => False) I12 (stat1 n12) st12 go1) fun r s13 ⟨u1, hr, h13⟩ => ?_
            subst hr
            refine thnF h13 fun _ s14 ⟨x1, H14, I14, r14, y14, st14, n14⟩ => ?_
            have I14' := I14.pinned (stat1 n14) (T1.obj _ _ st14)
            refine thnF (pg1.run _ s14 (wipe σ8 vs1) H14 x1 u1 _ I14' r14 (step1 x1 H14 y14)) fun _ s15 ⟨σ15, H15, I15, hw15, q15⟩ => ?_
            refine thnF (pt1.run _ s15 σ15 H15 _ I15 q15) fun b1 s16 ⟨H16, I16, q16⟩ => ?_
            have fin1 : ∀ {s' : Shared} {H' : Hp}, Inv (X.blk s3 H3 scope ce fp) (([] ++ pinsAt fp s7.heap) ++ pinsAt fp1 s14.heap) σ15 H' s' → Nx1 H' → ∃ m, m < k ∧ ∃ j H', Inv (X.blk s3 H3 scope ce fp) ([] ++ pinsAt fp s7.heap) (wipe σ8 vs1) H' s' ∧ tn1 j s'.heap ∧ (∀ b ∈ fp1, H' b = none) ∧ W1 j m H' := fun {s' H'} I' nx => by
              obtain ⟨m', hm, w'⟩ := hNx1 H' nx
              have pin' : ∀ b ∈ fp1, ∀ o, s14.heap.get? b = some o → s'.heap.get? b = some o ∧ H' b = none := fun b hb o e =>
                let z := I'.pin (b, o) (List.mem_append_right _ (List.mem_append_right _ (mem_pinsAt hb e)))
                ⟨z.1, z.2.1⟩
              refine ⟨m', hm, j + 1, H', I'.unpinned.weak (by rw [← hw15, wipe_length]) (fun j v e => by rw [← hw15] at e; exact (wipe_some e).1), T1.keep _ _ _ st14 fun b hb o e => (pin' b hb o e).1, fun b hb => ?_, w'⟩
              obtain ⟨o, e, _⟩ := T1.obj _ _ st14 b hb
              exact (pin' b hb o e).2
            cases b1 with
            | false =>
              simp only [Bool.false_eq_true, if_false] at q16 ⊢
              exact fin1 I16 q16
            | true =>
              simp only [if_true] at q16 ⊢
              refine thnF (pe.run _ s16 σ15 H16 _ I16 q16) fun z s17 ⟨yk, H17, I17, r17, l0, k0, ek, hD17, hz17, nx⟩ => ?_
              subst ek
              obtain ⟨tk0, rfl⟩ : ∃ t, z = Value.str k0 t := r17
              exact addT_ok (X := X.blk s3 H3 scope ce fp) I17 hD17 hz17 fun s19 I19 => fin1 I19 nx
        exact startZ_one loop1 (T1.self X.A 0 _ _ _ st11 loop1)
  exact PpSet.codeAny_compStart_set loop (T.self X.A 0 _ _ _ st4 loop)
/-- as a value -/
theorem pe_scT {ex tg iter tg1 iter1 : Expr} {ifs ifs1 : List Expr} {scope : Scope} {own : List (Str × Nat)} {vs1 : List Nat} {pos : Pos} {wi wi1 : TI} {g g1 : TG} {tt tt1 : TT} {te : TE} (hc : X.calm = true) (hN : X.N.Nodup) (hi : PI X tg iter wi) (ok : BlkOk X.N X.env.scope scope own) (hv : ∀ i ∈ vs1, i ∈ own.map (·.2))
    (hg : ∀ (s : Shared) (H : Hp) (C : Addr) (cl : List (Str × Addr)) (fp : List Addr), PG (X.blk s H scope (compEnvC scope cl C X.env) fp) tg g) (ht : ∀ (s : Shared) (H : Hp) (C : Addr) (cl : List (Str × Addr)) (fp : List Addr), PTs (X.blk s H scope (compEnvC scope cl C X.env) fp) ifs tt)
    (hi1 : ∀ (s : Shared) (H : Hp) (C : Addr) (cl : List (Str × Addr)) (fp : List Addr), PI (X.blk s H scope (compEnvC scope cl C X.env) fp) tg1 iter1 wi1)
    (hg1 : ∀ (s : Shared) (H : Hp) (C : Addr) (cl : List (Str × Addr)) (fp : List Addr), PG (X.blk s H scope (compEnvC scope cl C X.env) fp) tg1 g1) (ht1 : ∀ (s : Shared) (H : Hp) (C : Addr) (cl : List (Str × Addr)) (fp : List Addr), PTs (X.blk s H scope (compEnvC scope cl C X.env) fp) ifs1 tt1)
    (he : ∀ (s : Shared) (H : Hp) (C : Addr) (cl : List (Str × Addr)) (fp : List Addr), PE (X.blk s H scope (compEnvC scope cl C X.env) fp) ex te) (hs : ∀ x, foldedSetIterable iter X.env x = pure x := by intro _; rfl) (hs1 : ∀ env x, foldedSetIterable iter1 env x = pure x := by intro _ _; rfl) :
    PE X (.SetComp ex [⟨tg, iter, ifs, 0⟩, ⟨tg1, iter1, ifs1, 0⟩] scope pos) (tScT X.prog X.w wi g tt wi1 g1 tt1 te (own.map (·.2)) vs1) := by
  refine ⟨fun pins s σ H Q I h => ?_⟩
  rw [PpSet.eval_SetComp]
  refine scT_core hc hN I hi ok hv hg ht he hs hi1 hg1 ht1 hs1 h fun D C s' m H' I' q hn f => ⟨m, hn, fun h'' sb => ?_⟩
  obtain ⟨f0, f1, f2, f3, f4, f5⟩ := f
  exact ⟨.ref D, H', I'.turned (t' := s'.toks) (fun b o hb e => (sb.2 b hb).trans e) f0 f1 f3 f4 f5, rfl, q⟩
theorem pe_scTK {P : Program} {w : World} {ex tg iter tg1 iter1 : Expr} {ifs ifs1 : List Expr} {scope : Scope} {own : List (Str × Nat)} {vs1 : List Nat} {pos : Pos} {wi wi1 : TI} {g g1 : TG} {tt tt1 : TT} {te : TE} (hc : X.calm = true) (hN : X.N.Nodup) (hi : PI X tg iter wi) (ok : BlkOk X.N X.env.scope scope own) (hv : ∀ i ∈ vs1, i ∈ own.map (·.2))
    (hg : ∀ (s : Shared) (H : Hp) (C : Addr) (cl : List (Str × Addr)) (fp : List Addr), PG (X.blk s H scope (compEnvC scope cl C X.env) fp) tg g) (ht : ∀ (s : Shared) (H : Hp) (C : Addr) (cl : List (Str × Addr)) (fp : List Addr), PTs (X.blk s H scope (compEnvC scope cl C X.env) fp) ifs tt)
    (hi1 : ∀ (s : Shared) (H : Hp) (C : Addr) (cl : List (Str × Addr)) (fp : List Addr), PI (X.blk s H scope (compEnvC scope cl C X.env) fp) tg1 iter1 wi1)
    (hg1 : ∀ (s : Shared) (H : Hp) (C : Addr) (cl : List (Str × Addr)) (fp : List Addr), PG (X.blk s H scope (compEnvC scope cl C X.env) fp) tg1 g1) (ht1 : ∀ (s : Shared) (H : Hp) (C : Addr) (cl : List (Str × Addr)) (fp : List Addr), PTs (X.blk s H scope (compEnvC scope cl C X.env) fp) ifs1 tt1)
    (he : ∀ (s : Shared) (H : Hp) (C : Addr) (cl : List (Str × Addr)) (fp : List Addr), PE (X.blk s H scope (compEnvC scope cl C X.env) fp) ex te) (hs : ∀ x, foldedSetIterable iter X.env x = pure x := by intro _; rfl) (hs1 : ∀ env x, foldedSetIterable iter1 env x = pure x := by intro _ _; rfl) (hP : X.prog = P := by rfl) (hw : X.w = w := by rfl) :
    PE X (.SetComp ex [⟨tg, iter, ifs, 0⟩, ⟨tg1, iter1, ifs1, 0⟩] scope pos) (tScT P w wi g tt wi1 g1 tt1 te (own.map (·.2)) vs1) := by subst hP hw; exact pe_scT hc hN hi ok hv hg ht hi1 hg1 ht1 he hs hs1
end
end SF
/-! ### == of nested data, isinstance -/
namespace SF
open PySem PySem.Spec PyProof.Rows L2
class Deep {α : Type} [DecidableEq α] (r : Rl α) where
  pd : α → PyData
  okd : α → Bool
  dmax : Nat
  dp : ∀ {K : PySem.W.Frag} {F H : Hp} {v : V} {x : α}, Same F H → r F v x → Dp K H v (pd x)
  lay : ∀ {x : α}, okd x = true → (pd x).canLay0 = true
  dep : ∀ x, (pd x).depth ≤ dmax
  eqv : ∀ x y, PyData.eqv (pd x) (pd y) = decide (x = y)
theorem strOk_le {l : List Nat} (h : l.all (fun c => decide (c < 1114112)) = true) : PyData.strOk (S l) = true := by
  unfold PyData.strOk
  rw [Array.all_eq_true]
  intro i hi
  have h1 : (S l).cps[i] ∈ l := by
    have : (S l).cps[i] = l[i]'(by simpa using hi) := by simp
    rw [this]
    exact List.getElem_mem _
  exact List.all_eq_true.mp h _ h1
theorem eqv_str (x y : List Nat) : PyData.eqv (.str (S x)) (.str (S y)) = decide (x = y) := by
  unfold PyData.eqv
  by_cases h : x = y
  · subst h; simp
  · rw [decide_eq_false h]
    exact beq_eq_false_iff_ne.mpr fun e => h (S_inj.mp e)
instance deepU : Deep rNat where
  pd n := .int n
  okd _ := true
  dmax := 0
  dp := fun _ h => by rw [show _ = _ from h]; exact .int _
  lay := fun _ => rfl
  dep := fun _ => Nat.le_refl _
  eqv := fun x y => by
    show ((x : Int) == (y : Int)) = _
    by_cases h : x = y
    · subst h; simp
    · rw [decide_eq_false h]; exact beq_eq_false_iff_ne.mpr fun e => h (by omega)
instance deepI : Deep rI where
  pd n := .int n
  okd _ := true
  dmax := 0
  dp := fun _ h => by rw [show _ = _ from h]; exact .int _
  lay := fun _ => rfl
  dep := fun _ => Nat.le_refl _
  eqv := fun x y => by
    show (x == y) = _
    by_cases h : x = y
    · subst h; simp
    · rw [decide_eq_false h]; exact beq_eq_false_iff_ne.mpr h
instance deepB : Deep rB where
  pd n := .bool n
  okd _ := true
  dmax := 0
  dp := fun _ h => by rw [show _ = _ from h]; exact .bl _
  lay := fun _ => rfl
  dep := fun _ => Nat.le_refl _
  eqv := fun x y => by
    show (x == y) = _
    cases x <;> cases y <;> rfl
instance deepC : Deep rC where
  pd c := .str (S [c])
  okd c := decide (c < 1114112)
  dmax := 0
  dp := fun _ h => by rw [show _ = _ from h]; exact .str _
  lay := fun {c} h => strOk_le (l := [c]) (by simpa using h)
  dep := fun _ => Nat.le_refl _
  eqv := fun x y => by rw [eqv_str]; simp
instance deepS : Deep qS where
  pd l := .str (S l)
  okd l := l.all fun c => decide (c < 1114112)
  dmax := 0
  dp := fun _ h => by rw [h.1]; exact .str _
  lay := fun h => strOk_le h
  dep := fun _ => Nat.le_refl _
  eqv := eqv_str
section
variable {α β γ : Type} [DecidableEq α] [DecidableEq β] [DecidableEq γ]
instance deepP {r : Rl α} {s : Rl β} [Deep r] [Deep s] : Deep (rP r s) where
  pd x := .tuple [Deep.pd r x.1, Deep.pd s x.2]
  okd x := Deep.okd r x.1 && Deep.okd s x.2
  dmax := Nat.max (Deep.dmax r) (Deep.dmax s) + 1
  dp := fun e h => by
    obtain ⟨a, u, w, rfl, h0, h1, h2⟩ := h
    exact .tup (SqT.of (e _ _ h0)) (.cons (Deep.dp e h1) (.cons (Deep.dp e h2) .nil))
  lay := fun h => by
    rw [Bool.and_eq_true] at h
    simp only [PyData.canLay0, PyData.canLayAll0, Deep.lay h.1, Deep.lay h.2, Bool.and_self]
  dep := fun x => by
    have h1 := Deep.dep (r := r) x.1
    have h2 := Deep.dep (r := s) x.2
    simp only [PyData.depth, PyData.depthAll]
    have := Nat.le_max_left (Deep.dmax r) (Deep.dmax s)
    have := Nat.le_max_right (Deep.dmax r) (Deep.dmax s)
    show max _ (max _ 0) + 1 ≤ max (Deep.dmax r) (Deep.dmax s) + 1
    omega
  eqv := fun x y => by
    simp only [PyData.eqv, PyData.eqvAll, Deep.eqv, Bool.and_true]
    obtain ⟨x1, x2⟩ := x
    obtain ⟨y1, y2⟩ := y
    by_cases h1 : x1 = y1 <;> by_cases h2 : x2 = y2 <;> simp [h1, h2]
instance deepT {r : Rl α} {s : Rl β} {t : Rl γ} [Deep r] [Deep s] [Deep t] : Deep (qT3 r s t) where
  pd x := .tuple [Deep.pd r x.1, Deep.pd s x.2.1, Deep.pd t x.2.2]
  okd x := Deep.okd r x.1 && Deep.okd s x.2.1 && Deep.okd t x.2.2
  dmax := Nat.max (Nat.max (Deep.dmax r) (Deep.dmax s)) (Deep.dmax t) + 1
  dp := fun e h => by
    obtain ⟨a, u, w, z, rfl, h0, h1, h2, h3⟩ := h
    exact .tup (SqT.of (e _ _ h0)) (.cons (Deep.dp e h1) (.cons (Deep.dp e h2) (.cons (Deep.dp e h3) .nil)))
  lay := fun h => by
    rw [Bool.and_eq_true, Bool.and_eq_true] at h
    simp only [PyData.canLay0, PyData.canLayAll0, Deep.lay h.1.1, Deep.lay h.1.2, Deep.lay h.2, Bool.and_self]
  dep := fun x => by
    have h1 := Deep.dep (r := r) x.1
    have h2 := Deep.dep (r := s) x.2.1
    have h3 := Deep.dep (r := t) x.2.2
    simp only [PyData.depth, PyData.depthAll]
    show max _ (max _ (max _ 0)) + 1 ≤ max (max (Deep.dmax r) (Deep.dmax s)) (Deep.dmax t) + 1
    omega
  eqv := fun x y => by
    simp only [PyData.eqv, PyData.eqvAll, Deep.eqv, Bool.and_true]
    obtain ⟨x1, x2, x3⟩ := x
    obtain ⟨y1, y2, y3⟩ := y
    by_cases h1 : x1 = y1 <;> by_cases h2 : x2 = y2 <;> by_cases h3 : x3 = y3 <;> simp [h1, h2, h3]
theorem dpall {K : PySem.W.Frag} {r : Rl α} [Deep r] {F H : Hp} (s : Same F H) : ∀ {vs : List V} {xs : List α}, Al r F vs xs → DpAll K H vs (xs.map (Deep.pd r))
  | _, _, .nil => .nil
  | _, _, .cons h t => .cons (Deep.dp s h) (dpall s t)
theorem layall {r : Rl α} [Deep r] : ∀ {xs : List α}, xs.all (Deep.okd r) = true → PyData.canLayAll0 (xs.map (Deep.pd r)) = true
  | [], _ => rfl
  | x :: xs, h => by
    rw [List.all_cons, Bool.and_eq_true] at h
    simp only [List.map_cons, PyData.canLayAll0, Deep.lay h.1, layall h.2, Bool.and_self]
theorem depall {r : Rl α} [Deep r] : ∀ xs : List α, PyData.depthAll (xs.map (Deep.pd r)) ≤ Deep.dmax r
  | [] => Nat.zero_le _
  | x :: xs => by
    have h1 := Deep.dep (r := r) x
    have h2 := depall (r := r) xs
    simp only [List.map_cons, PyData.depthAll]
    omega
theorem eqvall {r : Rl α} [Deep r] : ∀ xs ys : List α, PyData.eqvAll (xs.map (Deep.pd r)) (ys.map (Deep.pd r)) = decide (xs = ys)
  | [], [] => rfl
  | [], _ :: _ => rfl
  | _ :: _, [] => rfl
  | x :: xs, y :: ys => by
    simp only [List.map_cons, PyData.eqvAll, Deep.eqv, eqvall xs ys]
    by_cases h1 : x = y <;> by_cases h2 : xs = ys <;> simp [h1, h2]
instance deepL {r : Rl α} [Deep r] : Deep (qL r) where
  pd xs := .list (xs.map (Deep.pd r))
  okd xs := xs.all (Deep.okd r)
  dmax := Deep.dmax r + 1
  dp := fun e h => by
    obtain ⟨a, vs, rfl, h0, al, _⟩ := h
    exact .lst (SqL.of (e _ _ h0)) (dpall e al)
  lay := fun h => by simp only [PyData.canLay0, layall h]
  dep := fun x => by
    have := depall (r := r) x
    simp only [PyData.depth]
    omega
  eqv := fun x y => by simp only [PyData.eqv, eqvall]
theorem lb_dp {K : PySem.W.Frag} {r : Rl α} [Deep r] {H0 F H : Hp} {v : V} {x : List α} (e : Same F H) (h : lb r H0 F H v x) : Dp K H v (Deep.pd (qL r) x) := by
  obtain ⟨a, vs, rfl, h0, al, _⟩ := h
  exact .lst (SqL.of h0) (dpall e al)
theorem deep_shaped {r : Rl α} [Deep r] {x : α} (h : Deep.okd r x = true) (hd : Deep.dmax r ≤ 64) : SeqAt.shaped (Deep.pd r x) = true := by
  unfold SeqAt.shaped
  rw [Deep.lay h, Bool.true_and, decide_eq_true_eq]
  exact Nat.le_trans (Deep.dep x) hd
variable {w : Xw} {σ : L2.St} {F H : Hp} {K : PySem.W.Frag} {ta tb : TE}
theorem e_eqD {r : Rl α} [Mono r] [Deep r] {m n : M α} (hd : Deep.dmax r ≤ 64) (ha : EvC w (ta σ) (fz r) m F H) (hb : EvC w (tb σ) (fz r) n F H) : EvC w (tOp (rEqD K) ta tb σ) (fz rB) (m.bd fun x => n.bd fun y => M.gd (Deep.okd r x = true ∧ Deep.okd r y = true) (.ok (decide (x = y)))) F H :=
  e_op ha hb (fun _ _ => gd_or) fun hz h1 h2 s Q q => by
    obtain ⟨⟨o1, o2⟩, rfl⟩ := gd_ok hz
    exact ⟨_, _, Deep.dp s h1, Deep.dp s h2, deep_shaped o1 hd, deep_shaped o2 hd, q _ _ _ (Xt.refl s) (by rw [Deep.eqv]; rfl)⟩
theorem e_neD {r : Rl α} [Mono r] [Deep r] {m n : M α} (hd : Deep.dmax r ≤ 64) (ha : EvC w (ta σ) (fz r) m F H) (hb : EvC w (tb σ) (fz r) n F H) : EvC w (tOp (rNeD K) ta tb σ) (fz rB) (m.bd fun x => n.bd fun y => M.gd (Deep.okd r x = true ∧ Deep.okd r y = true) (.ok (!decide (x = y)))) F H :=
  e_op ha hb (fun _ _ => gd_or) fun hz h1 h2 s Q q => by
    obtain ⟨⟨o1, o2⟩, rfl⟩ := gd_ok hz
    exact ⟨_, _, Deep.dp s h1, Deep.dp s h2, deep_shaped o1 hd, deep_shaped o2 hd, q _ _ _ (Xt.refl s) (by rw [Deep.eqv]; rfl)⟩
theorem e_eqL {r : Rl α} [Mono r] [Deep r] {m n : M (List α)} (hd : Deep.dmax (qL r) ≤ 64) (ha : EvC w (ta σ) (lb r) m F H) (hb : EvC w (tb σ) (lb r) n F H) : EvC w (tOp (rEqD K) ta tb σ) (fz rB) (m.bd fun x => n.bd fun y => M.gd (Deep.okd (qL r) x = true ∧ Deep.okd (qL r) y = true) (.ok (decide (x = y)))) F H :=
  e_op ha hb (fun _ _ => gd_or) fun hz h1 h2 s Q q => by
    obtain ⟨⟨o1, o2⟩, rfl⟩ := gd_ok hz
    exact ⟨_, _, lb_dp s h1, lb_dp s h2, deep_shaped (r := qL r) o1 hd, deep_shaped (r := qL r) o2 hd, q _ _ _ (Xt.refl s) (by rw [Deep.eqv]; rfl)⟩
theorem e_neL {r : Rl α} [Mono r] [Deep r] {m n : M (List α)} (hd : Deep.dmax (qL r) ≤ 64) (ha : EvC w (ta σ) (lb r) m F H) (hb : EvC w (tb σ) (lb r) n F H) : EvC w (tOp (rNeD K) ta tb σ) (fz rB) (m.bd fun x => n.bd fun y => M.gd (Deep.okd (qL r) x = true ∧ Deep.okd (qL r) y = true) (.ok (!decide (x = y)))) F H :=
  e_op ha hb (fun _ _ => gd_or) fun hz h1 h2 s Q q => by
    obtain ⟨⟨o1, o2⟩, rfl⟩ := gd_ok hz
    exact ⟨_, _, lb_dp s h1, lb_dp s h2, deep_shaped (r := qL r) o1 hd, deep_shaped (r := qL r) o2 hd, q _ _ _ (Xt.refl s) (by rw [Deep.eqv]; rfl)⟩
end
theorem e_at {ω α : Type} {w : Xw} {C : Hp → (ω → Hp → Prop) → Prop} {R : Hp → Hp → Hp → ω → α → Prop} {m m' : M α} {F H : Hp} (h : EvC w C R m' F H) (e : m' = m) : EvC w C R m F H := e ▸ h
/-! isinstance of a value whose kind is known -/
class Kd {α : Type} (R : R3 α) (t : outParam String) : Prop where
  kd : ∀ {K : PySem.W.Frag} {H0 F H : Hp} {v : V} {x : α}, Same F H → R H0 F H v x → TyX K H v (.type t)
instance {α : Type} {r : Rl α} : Kd (lb r) "list" := ⟨fun s h => by obtain ⟨a, vs, rfl, h0, _⟩ := h; exact .base (.lst h0)⟩
instance {α : Type} {r : Rl α} : Kd (fz (qL r)) "list" := ⟨fun s h => by obtain ⟨a, vs, rfl, h0, _⟩ := h; exact .base (.lst (s _ _ h0))⟩
instance : Kd (fz rNat) "int" := ⟨fun s h => by rw [show _ = _ from h]; exact .base (.int _)⟩
instance : Kd (fz rI) "int" := ⟨fun s h => by rw [show _ = _ from h]; exact .base (.int _)⟩
instance : Kd (fz rB) "bool" := ⟨fun s h => by rw [show _ = _ from h]; exact .base (.bl _)⟩
instance : Kd (fz rC) "str" := ⟨fun s h => by rw [show _ = _ from h]; exact .base (.str _)⟩
instance : Kd (fz qS) "str" := ⟨fun s h => by rw [h.1]; exact .base (.str _)⟩
instance {α β : Type} {r : Rl α} {s : Rl β} : Kd (fz (rP r s)) "tuple" := ⟨fun s h => by obtain ⟨a, u, w, rfl, h0, _⟩ := h; exact .base (.tup (s _ _ h0))⟩
instance {α β γ : Type} {r : Rl α} {s : Rl β} {t : Rl γ} : Kd (fz (qT3 r s t)) "tuple" := ⟨fun s h => by obtain ⟨a, u, w, z, rfl, h0, _⟩ := h; exact .base (.tup (s _ _ h0))⟩
section
variable {α : Type} {w : Xw} {σ : L2.St} {F H : Hp} {K : PySem.W.Frag} {ta : TE}
theorem e_isi {R : R3 α} [Up R] [Fl R] {t c : String} [Kd R t] {b : Bool} {m : M α} (hk : kitB t c = some b) (ha : EvC w (ta σ) R m F H) : EvC w (tCB (rIsi K) (tCons ta (tCons (tC (.ty c)) tNil)) σ) (fz rB) (m.bd fun _ => .ok b) F H :=
  EvC.last (D := fun (v : V) H (Q : VK) => rIsi K [v, .ty c] H Q) (R' := fz rB) ha (fun _ => .inl ⟨_, rfl⟩) fun x y v F1 H1 F2 H2 hz e1 e2 hr Q q => by
    cases hz
    exact ⟨_, _, _, _, b, rfl, .ty c, Kd.kd e2.fh hr, kit_ty hk, q _ _ _ (Xt.refl e2.fh) rfl⟩
end
/-! products, the guard out of reach of the unifier -/
@[irreducible] def mulOk2 (x y : Int) : Prop := CMul x y
noncomputable instance (x y : Int) : Decidable (mulOk2 x y) := Classical.propDecidable _
theorem mulOk2_c {x y : Int} (h : mulOk2 x y) : CMul x y := by unfold mulOk2 at h; exact h
theorem mulOk2_nat {x y : Nat} (h : x < 1000000000) : mulOk2 x y := by
  unfold mulOk2
  exact .inl ⟨by have : (0 : Int) < 2 ^ 64 := by decide
                 omega, by have : (1000000000 : Int) < 2 ^ 64 := by decide
                           omega⟩
section
variable {w : Xw} {σ : L2.St} {F H : Hp} {ta tb : TE}
theorem e_mulU2 {m n : M Nat} (ha : EvC w (ta σ) (fz rNat) m F H) (hb : EvC w (tb σ) (fz rNat) n F H) : EvC w (tOp (L2.rI CMul fun i j => .int (i * j)) ta tb σ) (fz rNat) (m.bd fun x => n.bd fun y => M.gd (mulOk2 x y) (.ok (x * y))) F H :=
  e_op ha hb (fun _ _ => gd_or) fun hz h1 h2 s Q q => by
    obtain ⟨hle, rfl⟩ := gd_ok hz
    exact ⟨_, _, h1, h2, mulOk2_c hle, q _ _ _ (Xt.refl s) rfl⟩
theorem e_mul2 {m n : M Int} (ha : EvC w (ta σ) (fz rI) m F H) (hb : EvC w (tb σ) (fz rI) n F H) : EvC w (tOp (L2.rI CMul fun i j => .int (i * j)) ta tb σ) (fz rI) (m.bd fun x => n.bd fun y => M.gd (mulOk2 x y) (.ok (x * y))) F H :=
  e_op ha hb (fun _ _ => gd_or) fun hz h1 h2 s Q q => by
    obtain ⟨hle, rfl⟩ := gd_ok hz
    exact ⟨_, _, h1, h2, mulOk2_c hle, q _ _ _ (Xt.refl s) rfl⟩
end
end SF
/-! ### {c for a in xs for c in inner(a) if test}, one-letter texts; sorted of it -/
namespace SF
open PySem PySem.Spec PyProof.Rows L2
section
variable {α β : Type}
def M.sc1 (t : β → M Bool) (k : β → M Nat) : List β → List Nat → M (List Nat)
  | [], d => .ok d
  | y :: r, d => (t y).nox.bd fun c => if c = true then (k y).nox.bd fun x => M.gd (d.length + 1 < 64) (M.sc1 t k r (if x ∈ d then d else x :: d)) else M.sc1 t k r d
def M.sc2 (inner : α → M (List β)) (t : α → β → M Bool) (k : α → β → M Nat) : List α → List Nat → M (List Nat)
  | [], d => .ok d
  | x :: r, d => (inner x).nox.bd fun ys => (M.sc1 (t x) (k x) ys d).bd fun d' => M.sc2 inner t k r d'
theorem sc1_or {t : β → M Bool} {k : β → M Nat} : ∀ (ys : List β) (d : List Nat), (∃ z, M.sc1 t k ys d = .ok z) ∨ M.sc1 t k ys d = .bad
  | [], d => .inl ⟨_, rfl⟩
  | y :: r, d => by
    unfold M.sc1
    cases t y with
    | bad => exact .inr rfl
    | exc e => exact .inr rfl
    | ok b =>
      cases b with
      | false => exact sc1_or r d
      | true =>
        cases k y with
        | bad => exact .inr rfl
        | exc e => exact .inr rfl
        | ok x =>
          show (∃ z, M.gd (d.length + 1 < 64) _ = _) ∨ M.gd (d.length + 1 < 64) _ = _
          by_cases h : d.length + 1 < 64
          · rw [M.gd_pos h]; exact sc1_or r _
          · rw [M.gd_neg h]; exact .inr rfl
theorem sc2_or {inner : α → M (List β)} {t : α → β → M Bool} {k : α → β → M Nat} : ∀ (xs : List α) (d : List Nat), (∃ z, M.sc2 inner t k xs d = .ok z) ∨ M.sc2 inner t k xs d = .bad
  | [], d => .inl ⟨_, rfl⟩
  | x :: r, d => by
    unfold M.sc2
    cases inner x with
    | bad => exact .inr rfl
    | exc e => exact .inr rfl
    | ok ys =>
      show (∃ z, (M.sc1 (t x) (k x) ys d).bd _ = _) ∨ (M.sc1 (t x) (k x) ys d).bd _ = _
      rcases sc1_or (t := t x) (k := k x) ys d with ⟨d', h⟩ | h
      · rw [h]; exact sc2_or r d'
      · rw [h]; exact .inr rfl
/-- a new set of one-letter texts -/
def sn (P : Program) (W : World) : R3 (List Nat) := fun H0 F H v xs => ∃ a, v = .ref a ∧ H0 a = none ∧ F a = none ∧ H a = some (TSO P W a (xs.map fun c => S [c])) ∧ xs.Nodup ∧ xs.length < 64
instance {P : Program} {W : World} : Dn (sn P W) := ⟨fun s h => by
  obtain ⟨a, e, h0, h⟩ := h
  exact ⟨a, e, s.free h0, h⟩⟩
instance {P : Program} {W : World} : Up (sn P W) := ⟨fun e h => by
  obtain ⟨a, e1, h0, h1, h2, h3⟩ := h
  exact ⟨a, e1, h0, e.nf a (by rw [h2]; trivial) h1, e.hh _ _ h2, h3⟩⟩
theorem mem_S1 {x : Nat} {d : List Nat} : S [x] ∈ (d.map fun c => S [c]) ↔ x ∈ d := by
  rw [List.mem_map]
  constructor
  · rintro ⟨c, h, e⟩
    have := S_inj.mp e
    simp at this
    exact this ▸ h
  · exact fun h => ⟨x, h, rfl⟩
theorem add_S1 {x : Nat} {d : List Nat} : (if S [x] ∈ (d.map fun c => S [c]) then (d.map fun c => S [c]) else S [x] :: (d.map fun c => S [c])) = ((if x ∈ d then d else x :: d).map fun c => S [c]) := by
  by_cases h : x ∈ d
  · rw [if_pos (mem_S1.mpr h), if_pos h]
  · rw [if_neg (fun q => h (mem_S1.mp q)), if_neg h]; rfl
variable {w w' : Xw} {σ : L2.St} {F H : Hp} {P : Program} {W0 : World}
theorem e_scT2 {wi wi1 : TI} {g g1 : TG} {te : TE} {tt1 : TT} {vs vs1 : List Nat} {r : Rl α} {r1 : Rl β} {m : M (List α)} {inner : α → M (List β)} {t : α → β → M Bool} {k : α → β → M Nat}
    (hi : EvC w (wi σ) (iw r) m F H) (Tg : Hp → α → L2.St → Prop) (hT : ∀ {F F' x σ2}, Same F F' → Tg F x σ2 → Tg F' x σ2)
    (hg : ∀ {x v F4 H4} (Q : L2.St → Hp → Prop), Same F4 H4 → r F4 v x → (∀ σ2, wipe σ2 vs = wipe σ vs → Tg F4 x σ2 → Q σ2 H4) → g v (wipe σ vs) H4 Q)
    (hin : ∀ x σ2 F4 H4, Xt F H F4 H4 → Tg F4 x σ2 → EvC w' (wi1 σ2) (iwF r1) (inner x) F4 H4) (Tg1 : Hp → α → β → L2.St → Prop) (hT1 : ∀ {F F' x y σ3}, Same F F' → Tg1 F x y σ3 → Tg1 F' x y σ3)
    (hg1 : ∀ {x y σ2 v F4 H4} (Q : L2.St → Hp → Prop), Tg F4 x σ2 → Same F4 H4 → r1 F4 v y → (∀ σ3, wipe σ3 vs1 = wipe σ2 vs1 → Tg1 F4 x y σ3 → Q σ3 H4) → g1 v (wipe σ2 vs1) H4 Q)
    (ht : ∀ x y σ3 F4 H4, Xt F H F4 H4 → Tg1 F4 x y σ3 → EvC w' (tt1 σ3) teq (t x y) F4 H4) (hk : ∀ x y σ3 F4 H4, Xt F H F4 H4 → Tg1 F4 x y σ3 → EvC w' (te σ3) (fz rC) (k x y) F4 H4) :
    EvC w (tScT P W0 wi g tYes wi1 g1 tt1 te vs vs1 σ) (sn P W0) (m.bd fun xs => M.sc2 inner t k xs []) F H := by
  refine EvC.bind (D := fun J H1 (Q : VK) => ∀ D, H1 D = none → ∃ W : Nat → Nat → Hp → Prop, (∃ m, W 0 m (upd H1 D (TSO P W0 D []))) ∧ ∀ i m H, W i m H →
    (J.stop i H ∧ Q (.ref D) H) ∨ (J.go i H ∧ ∃ Nx : Hp → Prop, (∀ H', Nx H' → ∃ m', m' < m ∧ W (i + 1) m' H') ∧ ∀ x H', J.yld i H x H' → g x (wipe σ vs) H' fun σ2 H2 => wipe σ2 vs = wipe σ vs ∧ tYes σ2 H2 fun b H3 =>
      if b = true then wi1 σ2 H3 fun J1 H4 => ∃ W1 : Nat → Nat → Hp → Prop, (∃ m, W1 0 m H4) ∧ ∀ j k H, W1 j k H →
        (J1.stop j H ∧ Nx H) ∨ (J1.go j H ∧ ∃ Nx1 : Hp → Prop, (∀ H', Nx1 H' → ∃ k', k' < k ∧ W1 (j + 1) k' H') ∧ ∀ x H', J1.yld j H x H' → g1 x (wipe σ2 vs1) H' fun σ3 H5 => wipe σ3 vs1 = wipe σ2 vs1 ∧ tt1 σ3 H5 fun b H6 =>
          if b = true then te σ3 H6 fun y H7 => ∃ l k, y = V.str k ∧ H7 D = some (TSO P W0 D l) ∧ l.length + 1 < scanBound ∧ Nx1 (upd H7 D (TSO P W0 D (if k ∈ l then l else k :: l))) else Nx1 H6)
      else Nx H3)) (R' := sn P W0) hi fun xs J F1 H1 F2 H2 e1 e2 hw => ?_
  obtain ⟨⟨G, Y, wk, hG, hY⟩, hz⟩ := hw
  have e12 := e1.trans e2
  cases hm : M.sc2 inner t k xs [] with
  | bad => trivial
  | exc e => rcases sc2_or (inner := inner) (t := t) (k := k) xs [] with ⟨z, h⟩ | h <;> rw [h] at hm <;> cases hm
  | ok zs =>
    intro Q q D hD
    refine ⟨fun i n H' => n = xs.length - i ∧ i ≤ xs.length ∧ ∃ F' d, Xt F2 H2 F' H' ∧ F' D = none ∧ H' D = some (TSO P W0 D (d.map fun c => S [c])) ∧ d.Nodup ∧ d.length < 64 ∧ M.sc2 inner t k (xs.drop i) d = .ok zs,
      ⟨xs.length, by simp, Nat.zero_le _, F2, [], (Xt.refl e2.fh).newM hD, e2.fh.free hD, upd_same, List.nodup_nil, by simp, hm⟩, ?_⟩
    rintro i n H4 ⟨rfl, hi, F4, d, e4, f4, hD4, nd4, hd4, hrs⟩
    by_cases hlt : i < xs.length
    · refine .inr ⟨wk.goes i H4 hlt (hG F4 H4 e4), fun H' => ∃ F' d, Xt F2 H2 F' H' ∧ F' D = none ∧ H' D = some (TSO P W0 D (d.map fun c => S [c])) ∧ d.Nodup ∧ d.length < 64 ∧ M.sc2 inner t k (xs.drop (i + 1)) d = .ok zs,
        fun H' h => ⟨xs.length - (i + 1), by omega, rfl, hlt, h⟩, fun u H5 hy => ?_⟩
      obtain ⟨F5, x, hx, e5, hr⟩ := hY i H4 u H5 F4 hlt e4.ff e4.fh (wk.yields i H4 u H5 hlt (hG F4 H4 e4) hy)
      have f5 : F5 D = none := e5.nf D (by rw [hD4]; trivial) f4
      have hD5 := e5.hh _ _ hD4
      have hdrop : xs.drop i = x :: xs.drop (i + 1) := by
        rw [List.drop_eq_getElem_cons hlt]
        congr 1
        rw [List.getElem?_eq_getElem hlt] at hx
        exact Option.some.inj hx
      rw [hdrop] at hrs
      unfold M.sc2 at hrs
      refine hg _ e5.fh hr fun σ2 hw2 ht2 => ⟨hw2, yes_in ?_⟩
      have hin1 := hin x σ2 F5 H5 ((e12.trans e4).trans e5) ht2 F5 H5 (Xt.refl e5.fh)
      cases hix : inner x with
      | bad => rw [hix] at hrs; cases hrs
      | exc e => rw [hix] at hrs; cases hrs
      | ok ys =>
        rw [hix] at hrs hin1
        refine hin1 _ fun J1 F6 H6 e6 hw1 => ?_
        obtain ⟨⟨G1, Y1, wk1, hG1, hY1⟩, hz1⟩ := hw1
        have hrs : ((M.sc1 (t x) (k x) ys d).bd fun d' => M.sc2 inner t k (xs.drop (i + 1)) d') = .ok zs := hrs
        have f6 : F6 D = none := e6.nf D (by rw [hD5]; trivial) f5
        have hD6 := e6.hh _ _ hD5
        have e46 := (e4.trans e5).trans e6
        refine ⟨fun j n H' => n = ys.length - j ∧ j ≤ ys.length ∧ ∃ F' d, Xt F2 H2 F' H' ∧ Same F6 F' ∧ F' D = none ∧ H' D = some (TSO P W0 D (d.map fun c => S [c])) ∧ d.Nodup ∧ d.length < 64 ∧ ((M.sc1 (t x) (k x) (ys.drop j) d).bd fun d' => M.sc2 inner t k (xs.drop (i + 1)) d') = .ok zs,
          ⟨ys.length, by simp, Nat.zero_le _, F6, d, e46, Same.refl _, f6, hD6, nd4, hd4, hrs⟩, ?_⟩
        rintro j n H7 ⟨rfl, hj, F7, d7, e7, s67, f7, hD7, nd7, hd7, hrs7⟩
        by_cases hlt1 : j < ys.length
        · refine .inr ⟨wk1.goes j H7 hlt1 (hG1 F7 H7 s67 e7.fh), fun H' => ∃ F' d, Xt F2 H2 F' H' ∧ Same F6 F' ∧ F' D = none ∧ H' D = some (TSO P W0 D (d.map fun c => S [c])) ∧ d.Nodup ∧ d.length < 64 ∧ ((M.sc1 (t x) (k x) (ys.drop (j + 1)) d).bd fun d' => M.sc2 inner t k (xs.drop (i + 1)) d') = .ok zs,
            fun H' h => ⟨ys.length - (j + 1), by omega, rfl, hlt1, h⟩, fun u8 H8 hy8 => ?_⟩
          obtain ⟨F8, y, hx8, e8, hr8⟩ := hY1 j H7 u8 H8 F7 hlt1 s67 e7.fh (wk1.yields j H7 u8 H8 hlt1 (hG1 F7 H7 s67 e7.fh) hy8)
          have f8 : F8 D = none := e8.nf D (by rw [hD7]; trivial) f7
          have hD8 := e8.hh _ _ hD7
          have hdrop8 : ys.drop j = y :: ys.drop (j + 1) := by
            rw [List.drop_eq_getElem_cons hlt1]
            congr 1
            rw [List.getElem?_eq_getElem hlt1] at hx8
            exact Option.some.inj hx8
          rw [hdrop8] at hrs7
          unfold M.sc1 at hrs7
          have e78 := e7.trans e8
          refine hg1 _ (hT (e6.ff.trans (s67.trans e8.ff)) ht2) e8.fh hr8 fun σ3 hw3 ht3 => ⟨hw3, ?_⟩
          have ht1 := ht x y σ3 F8 H8 (e12.trans e78) ht3 F8 H8 (Xt.refl e8.fh)
          cases htx : t x y with
          | bad => rw [htx] at hrs7; cases hrs7
          | exc e => rw [htx] at hrs7; cases hrs7
          | ok b =>
            rw [htx] at hrs7 ht1
            refine ht1 _ fun b9 F9 H9 e9 hb9 => ?_
            cases (show b9 = b from hb9)
            have f9 : F9 D = none := e9.nf D (by rw [hD8]; trivial) f8
            have hD9 := e9.hh _ _ hD8
            have e89 := e8.trans e9
            cases b with
            | false =>
              show (if false = true then _ else _)
              rw [if_neg Bool.false_ne_true]
              exact ⟨F9, d7, e7.trans e89, s67.trans e89.ff, f9, hD9, nd7, hd7, hrs7⟩
            | true =>
              refine iteT ?_
              have hk1 := hk x y σ3 F9 H9 (e12.trans (e7.trans e89)) (hT1 e9.ff ht3) F9 H9 (Xt.refl e9.fh)
              cases hkx : k x y with
              | bad => rw [hkx] at hrs7; cases hrs7
              | exc e => rw [hkx] at hrs7; cases hrs7
              | ok key =>
                rw [hkx] at hrs7 hk1
                refine hk1 _ fun u10 F10 H10 e10 hu10 => ?_
                have hrs7 : ((M.gd (d7.length + 1 < 64) (M.sc1 (t x) (k x) (ys.drop (j + 1)) (if key ∈ d7 then d7 else key :: d7))).bd fun d' => M.sc2 inner t k (xs.drop (i + 1)) d') = .ok zs := hrs7
                by_cases h64 : d7.length + 1 < 64
                · rw [M.gd_pos h64] at hrs7
                  have e810 := e89.trans e10
                  have f10 : F10 D = none := e10.nf D (by rw [hD9]; trivial) f9
                  have hD10 := e10.hh _ _ hD9
                  refine ⟨_, S [key], hu10, hD10, by rw [List.length_map]; unfold scanBound; omega, F10, if key ∈ d7 then d7 else key :: d7, (e7.trans e810).set hD f10, s67.trans e810.ff, f10, by rw [add_S1]; exact upd_same, ?_, ?_, hrs7⟩
                  · split
                    · exact nd7
                    · rename_i hn; exact List.nodup_cons.mpr ⟨hn, nd7⟩
                  · split
                    · exact hd7
                    · rw [List.length_cons]; omega
                · rw [M.gd_neg h64] at hrs7; cases hrs7
        · have ej : j = ys.length := by omega
          subst ej
          rw [List.drop_length] at hrs7
          exact .inl ⟨wk1.stops H7 (hG1 F7 H7 s67 e7.fh), F7, d7, e7, f7, hD7, nd7, hd7, hrs7⟩
    · have ei : i = xs.length := by omega
      subst ei
      refine .inl ⟨wk.stops H4 (hG F4 H4 e4), ?_⟩
      rw [List.drop_length] at hrs
      injection hrs with hrs
      subst hrs
      exact q _ _ _ e4 ⟨D, rfl, hD, f4, hD4, nd4, hd4⟩
end
/-! sorted -/
def sortN (l : List Nat) : List Nat := l.mergeSort (fun a b => decide (a ≤ b))
theorem sortN_mem {l : List Nat} {c : Nat} : c ∈ sortN l ↔ c ∈ l := by unfold sortN; exact List.mem_mergeSort
theorem sortN_asc {l : List Nat} (h : l.Nodup) : (sortN l).Pairwise (· < ·) := by
  refine le_lt ?_ ((List.mergeSort_perm l _).nodup_iff.mpr h)
  have := List.pairwise_mergeSort (le := fun a b : Nat => decide (a ≤ b)) (fun a b c h1 h2 => by simp at *; omega) (fun a b => by simp; omega) l
  exact this.imp fun h => by simpa using h
theorem sorted_set {ys : List Str} {l : List Nat} (nl : l.Nodup) (nd : ys.Nodup) (hm : ∀ x, x ∈ ys ↔ x ∈ (l.map fun c => S [c])) (hs : sortedS ys = true) : ys = (sortN l).map fun c => S [c] := by
  have key : ∀ (ys : List Str), (∀ x ∈ ys, ∃ c, x = S [c]) → ∃ cs : List Nat, ys = cs.map fun c => S [c] := by
    intro ys
    induction ys with
    | nil => intro _; exact ⟨[], rfl⟩
    | cons y r ih =>
      intro h
      obtain ⟨cs, hcs⟩ := ih fun x hx => h x (List.mem_cons_of_mem _ hx)
      obtain ⟨c, hc⟩ := h y List.mem_cons_self
      exact ⟨c :: cs, by rw [hcs, hc]; rfl⟩
  obtain ⟨cs, rfl⟩ := key ys fun x hx => by
    obtain ⟨c, _, e⟩ := List.mem_map.mp ((hm x).mp hx)
    exact ⟨c, e.symm⟩
  have nd' : cs.Nodup := List.Pairwise.of_map (f := fun c => S [c]) (S := (· ≠ ·)) (R := (· ≠ ·)) (fun a c h e => h (by rw [e])) nd
  rw [asc_eq (le_lt (sorted_le cs hs) nd') (sortN_asc nl) fun c => ?_]
  rw [sortN_mem, ← mem_S1 (d := cs), ← mem_S1 (d := l)]
  exact hm _
section
variable {w : Xw} {σ : L2.St} {F H : Hp} {P : Program} {W0 : World} {ta : TE}
theorem al_qs1 {F : Hp} : ∀ l : List Nat, Al qS F ((l.map fun c => S [c]).map V.str) (l.map fun c => [c])
  | [] => .nil
  | c :: l => .cons ⟨rfl, one_le⟩ (al_qs1 l)
theorem e_sortSet {m : M (List Nat)} (ha : EvC w (ta σ) (sn P W0) m F H) : EvC w (tCB (rSortSet P W0) (tCons ta tNil) σ) (nw qS) (m.bd fun l => .ok ((sortN l).map fun c => [c])) F H :=
  EvC.last (D := fun (v : V) H (Q : VK) => rSortSet P W0 [v] H Q) (R' := nw qS) ha (fun _ => .inl ⟨_, rfl⟩) fun x y v F1 H1 F2 H2 hz e1 e2 hr Q q => by
    cases hz
    obtain ⟨a, rfl, h0, f0, h1, nd, h64⟩ := hr
    refine ⟨a, _, rfl, h1, by rw [List.length_map]; exact h64, fun ys p nd2 hm hs hlen hp => ?_⟩
    have e := sorted_set nd nd2 hm hs
    have hl : (sortN x).length = x.length := List.length_mergeSort x
    obtain ⟨x1, x2⟩ := nw_new (r := qS) (H := H2) (F := F2) (vs := ys.map V.str) (xs := (sortN x).map fun c => [c]) e2.fh hp (by rw [e]; exact al_qs1 _) (by rw [List.length_map, hl, sl64]; omega)
    exact q _ _ _ x1 x2
end
end SF
/-! ### enumerate of a text -/
namespace SF
open PySem PySem.Spec PyProof.Rows L2
/-- the places and signs of the text, in new pairs -/
def ItS (x : Str) : It :=
  ⟨fun i _ => i < x.cps.size, fun i H v H' => ∃ T c, v = .ref T ∧ H T = none ∧ x.cps[i]? = some c ∧ H' = upd H T (.tup [.int (i : Nat), .str ⟨#[c]⟩]), fun i _ => x.cps.size ≤ i⟩
theorem turn_enumS {P : Program} {w : World} {K : PySem.W.Frag} {elts : List Expr} {kk : Nat} {tpos : Pos} (e it : Addr) (x : Str) (t : Tok) :
    Turn P w K (.Tuple elts kk tpos) (ItS x) [e, it] e (fun i h => i ≤ x.cps.size ∧ (∃ old, IsEnum h e it ((i : Nat) : Int) old) ∧ h.IsStrIter it (strIterType x) x t i ∧ e ≠ it) where
  mem := by simp
  obj := fun i h st b hb => by
    obtain ⟨_, ⟨old, he⟩, ⟨o, ho, hc, hd⟩, _⟩ := st
    have e' : b = e ∨ b = it := by simpa using hb
    rcases e' with z | z
    · rw [z]; exact ⟨_, he, fun v q => nomatch q⟩
    · rw [z]; exact ⟨o, ho, fun v q => by rw [hd] at q; cases q⟩
  keep := fun i h h' st k => let ⟨hi, ⟨old, he⟩, ⟨o, ho, r⟩, hne⟩ := st; ⟨hi, ⟨old, k e (by simp) _ he⟩, ⟨o, k it (by simp) o ho, r⟩, hne⟩
  item := by
    intro X hP hw hK hc i pins s σ H E I hf st hg
    subst hP hw hK
    obtain ⟨hi, ⟨old, he⟩, hit, hne⟩ := st
    have D : Draws X.prog X.w X.A.in1 it [it] x.cps.size (SignAt x) (fun i h => h.IsStrIter it (strIterType x) x t i) := Draws.text (by show X.A.handled = none; exact I.ok.hd hc) it x t
    have hel : e < s.heap.objs.size := Heap.lt_size he
    have hil : it < s.heap.objs.size := by obtain ⟨_, q, _⟩ := hit; exact Heap.lt_size q
    refine wpAny_pyNext_enum_itemD D he hit hg hne (by simpa using hne) fun v h' tk hv ho hit' hT hsz hk => ?_
    obtain ⟨c, u, hcx, rfl⟩ := hv
    refine ⟨_, rfl, wpAny_letOwnedTupleGo_enum (s := { s with heap := h', toks := tk + 1 }) ho fun h'' he' sb => ?_⟩
    have hT2 : h''.get? s.heap.objs.size = some { cls := .type "tuple", data := .seq #[.int i tk, .str ⟨#[c]⟩ u] } := (sb.2 _ (Nat.ne_of_gt hel)).trans hT
    have new : ObjOk X.prog X.w (upd H s.heap.objs.size (.tup [.int (i : Nat), .str ⟨#[c]⟩])) h'' s.heap.objs.size (.tup [.int (i : Nat), .str ⟨#[c]⟩]) :=
      ⟨by show 2 ≤ sizeLine; decide, [.int i tk, .str ⟨#[c]⟩ u], .cons ⟨_, rfl⟩ (.cons ⟨_, rfl⟩ .nil), ⟨_, hT2, rfl, _, rfl⟩⟩
    have I1 : Inv X pins σ (upd H s.heap.objs.size (.tup [.int (i : Nat), .str ⟨#[c]⟩])) { s with heap := h'', toks := tk + 1 } :=
      I.turnedNew (ch := [e, it]) (fun b ob hb q => (sb.2 b (fun z => hb (by simp [z]))).trans (hk b ob (fun z => hb (by simp [z])) (fun z => hb (by simp [z])) q)) hf (Nat.le_refl _) new
    refine ⟨.ref s.heap.objs.size, _, I1, rfl, ⟨_, c, rfl, I.hok.fresh (Nat.le_refl _), hcx, rfl⟩, ⟨hg, ⟨.str ⟨#[c]⟩ u, ?_⟩, ?_, hne⟩, fun b hb => ?_⟩
    · have e1 : ((i + 1 : Nat) : Int) = (i : Int) + 1 := by omega
      rw [e1]; exact he'
    · exact D.frame _ _ _ hit' fun b hb o q => (sb.2 b fun z => hne (z.symm.trans (List.mem_singleton.mp hb))).trans q
    · have hb' : b < s.heap.objs.size := by
        have e' : b = e ∨ b = it := by simpa using hb
        rcases e' with z | z
        · rw [z]; exact hel
        · rw [z]; exact hil
      rw [upd_ne (Nat.ne_of_lt hb')]
      exact (hf b hb).1
  done := by
    intro X hP hw hK hc i pins s σ H E I hf st hg
    subst hP hw hK
    obtain ⟨hi, ⟨old, he⟩, hit, hne⟩ := st
    have hg : x.cps.size ≤ i := hg
    obtain rfl : i = x.cps.size := by omega
    have D : Draws X.prog X.w X.A.in1 it [it] x.cps.size (SignAt x) (fun i h => h.IsStrIter it (strIterType x) x t i) := Draws.text (by show X.A.handled = none; exact I.ok.hd hc) it x t
    obtain ⟨f0, f1, f2, f3, f4, f5⟩ := hf it (by simp)
    exact wpAny_pyNext_enum_endD D he hit fun h' eb => ⟨rfl, I.turned (t' := s.toks) (fun b o hb q => eb b o hb q) f0 f1 f3 f4 f5⟩
  self := fun A i s Q E st h => let ⟨_, ⟨_, he⟩, _⟩ := st; wpAny_pyIter_enum he h
def iEnumS (ta : TA) : TI := fun σ H R => ta σ H fun vs H1 => ∃ x, vs = [V.str x] ∧ R (ItS x) H1
theorem pi_enumS {X : Cx} {e : Expr} {ta : TA} {p pos tpos : Pos} {elts : List Expr} {kk : Nat} (hg : Gl X "enumerate") (hm : X.mg "enumerate" = none) (ha : PA X [e] ta) (hs : starEach [e] X.env = [(false, eval e X.env)] := by rfl) :
    PI X (.Tuple elts kk tpos) (.Call (.Name "enumerate" p) [e] [] pos) (iEnumS ta) := by
  refine ⟨fun pins s σ H R I h => ?_⟩
  refine Call_ (ld_blt I hg hm boot_enumerate (PyProof.Rows.callWith_type1 (thn (ha.run pos pins s σ H _ I h) fun us s1 ⟨vs, H1, I1, r1, q1⟩ => ?_) hs rfl))
  obtain ⟨x, ex, q⟩ := q1
  subst ex
  cases r1 with
  | cons r rr =>
    cases rr
    obtain ⟨t, rfl⟩ := r
    refine call_enumerate_str fun h' he hit hsz hk => wpAny_pyIter_enum he ?_
    have I2 : Inv X pins σ H1 { s1 with heap := h' } := I1.kept (t' := s1.toks) hk
    refine ⟨s1.heap.objs.size + 1, [s1.heap.objs.size + 1, s1.heap.objs.size], _, _, H1, rfl, I2, turn_enumS (s1.heap.objs.size + 1) s1.heap.objs.size x t, ⟨Nat.zero_le _, ⟨.none, he⟩, hit, Nat.succ_ne_self _⟩, fun b hb => ?_, q⟩
    have e' : b = s1.heap.objs.size + 1 ∨ b = s1.heap.objs.size := by simpa using hb
    have hle : s1.heap.objs.size ≤ b := by
      rcases e' with z | z
      · rw [z]; exact Nat.le_add_right _ _
      · rw [z]; exact Nat.le_refl _
    exact I1.fpOk hle (I1.hok.fresh hle)
section
variable {w : Xw} {σ : L2.St} {F H : Hp} {ta : TE}
theorem walk_enumS {z : Str} : Walk (ItS z) z.cps.size (fun _ => True) (fun i H v H' => ∃ T c, v = .ref T ∧ H T = none ∧ z.cps[i]? = some c ∧ H' = upd H T (.tup [.int (i : Nat), .str ⟨#[c]⟩])) :=
  ⟨fun _ _ hi _ => hi, fun _ _ => Nat.le_refl _, fun _ _ _ _ _ _ y => y⟩
theorem i_enumS {m : M (List Nat)} (ha : EvC w (ta σ) (fz qS) m F H) : EvC w (iEnumS (tCons ta tNil) σ) (iwF (rP rNat rC)) (m.bd fun xs => .ok (zipIx xs)) F H :=
  EvC.last (D := fun (v : V) H (R : It → Hp → Prop) => ∃ x, [v] = [V.str x] ∧ R (ItS x) H) (R' := iwF (rP rNat rC)) ha (fun _ => .inl ⟨_, rfl⟩) fun x y v F1 H1 F2 H2 hz e1 e2 hr Q q => by
    cases hz
    obtain ⟨rfl, hl⟩ := hr
    refine ⟨_, rfl, q _ _ _ (Xt.refl e2.fh) ⟨⟨fun _ => True, _, by rw [zipIx_len, ← S_size]; exact walk_enumS (z := S x), fun _ _ _ _ => trivial, fun i H' v H'' F' _ s1 s2 hy => ?_⟩, by rw [zipIx_len]; exact hl⟩⟩
    obtain ⟨T, c, rfl, hT, hc, rfl⟩ := hy
    have e3 := (Xt.refl s2).newF hT (o := .tup [.int (i : Nat), .str ⟨#[c]⟩])
    exact ⟨_, _, zipIx_get (S_get hc), e3, T, _, _, rfl, upd_same, rfl, rfl⟩
end
end SF
/-! ### a dict of lists that change -/
namespace SF
open PySem PySem.Spec PyProof.Rows L2
/-- a list that stands at H -/
def stl {α : Type} (r : Rl α) (H : Hp) : Rl (List α) := fun F v xs => ∃ b vs, v = .ref b ∧ H b = some (.lst vs) ∧ Al r F vs xs ∧ xs.length ≤ sizeLine
section
variable {κ α : Type} [DecidableEq κ]
/-- a standing dict of standing lists -/
def dbm (enc : κ → Key) (r : Rl α) : R3 (List (κ × List α)) := fun _ F H v m => ∃ a kvs, v = .ref a ∧ H a = some (.dK kvs) ∧ AD enc (stl r H) F kvs m ∧ m.length ≤ sizeLine
theorem stl_up {r : Rl α} [Mono r] {F H F1 H1 : Hp} {v : V} {xs : List α} (e1 : Same F F1) (e2 : Same H H1) (h : stl r H F v xs) : stl r H1 F1 v xs := by
  obtain ⟨b, vs, e, h1, h2, h3⟩ := h
  exact ⟨b, vs, e, e2 _ _ h1, h2.mono e1, h3⟩
theorem ad_stl {enc : κ → Key} {r : Rl α} [Mono r] {F H F1 H1 : Hp} (e1 : Same F F1) (e2 : Same H H1) : ∀ {kvs : List (Key × V)} {m : List (κ × List α)}, AD enc (stl r H) F kvs m → AD enc (stl r H1) F1 kvs m
  | _, _, .nil => .nil
  | _, _, .cons h t => .cons ⟨h.1, stl_up e1 e2 h.2⟩ (ad_stl e1 e2 t)
variable {enc : κ → Key} {r : Rl α}
instance : Dn (dbm enc r) := ⟨fun _ h => h⟩
instance : Fl (dbm enc r) := ⟨fun h => h⟩
instance [Mono r] : Up (dbm enc r) := ⟨fun e h => by
  obtain ⟨a, kvs, e1, h1, h2, h3⟩ := h
  exact ⟨a, kvs, e1, e.hh _ _ h1, ad_stl e.ff e.hh h2, h3⟩⟩
variable {w : Xw} {σ : L2.St} {F H : Hp} {ta tb : TE} {rk : Rl κ} {m : M (List (κ × List α))} {n : M κ}
/-- d[k]: the list as it stands -/
theorem e_mget [Mono r] [Mono rk] [KR rk enc] (ha : EvC w (ta σ) (dbm enc r) m F H) (hb : EvC w (tb σ) (fz rk) n F H) : EvC w (tDGet ta tb σ) (lb r) (m.bd fun x => n.bd fun k => M.of (aGet x k)) F H := by
  refine EvC.bind (D := fun (x : V) H (Q : VK) => tb σ H fun y H2 => ∃ a v, x = .ref a ∧ DGet H2 a y (some v) ∧ Q v H2) (R' := lb r) ha fun x v F1 H1 F2 H2 e1 e2 hr => ?_
  refine EvC.last (D := fun (y : V) H (Q : VK) => ∃ a u, v = .ref a ∧ DGet H a y (some u) ∧ Q u H) (R' := lb r) (hb.up (e1.trans e2)) (fun _ => of_or) (fun k z u F3 H3 F4 H4 hz e3 e4 hk Q q => ?_) F2 H2 (Xt.refl e2.fh)
  obtain ⟨a, kvs, rfl, hd, ad, hl⟩ := Up.up (R := dbm enc r) (e3.trans e4) hr
  have hz := of_ok hz
  rcases AD.get (KR.inj (r := rk) (enc := enc)) k ad with ⟨c1, _⟩ | ⟨y, z', c1, c2, b, vs, rfl, hb, al, hz2⟩
  · rw [c1] at hz; cases hz
  · rw [c1] at hz; cases hz
    exact ⟨a, .ref b, rfl, by rw [KR.kr (r := rk) (enc := enc) hk]; rw [← c2]; exact DGet.k hd, q _ _ _ (Xt.refl e4.fh) ⟨b, vs, rfl, hb, al, hz2⟩⟩
/-- k in d -/
theorem e_min [Mono r] [Mono rk] [KR rk enc] (hb : EvC w (tb σ) (fz rk) n F H) (ha : EvC w (ta σ) (dbm enc r) m F H) : EvC w (tDIn tb ta σ) (fz rB) (n.bd fun k => m.bd fun x => .ok (aGet x k).isSome) F H := by
  refine EvC.bind (D := fun (y : V) H (Q : VK) => ta σ H fun x H2 => ∃ a o, x = .ref a ∧ DGet H2 a y o ∧ Q (.bl o.isSome) H2) (R' := fz rB) hb fun k u F1 H1 F2 H2 e1 e2 hk => ?_
  refine EvC.last (D := fun (x : V) H (Q : VK) => ∃ a o, x = .ref a ∧ DGet H a u o ∧ Q (.bl o.isSome) H) (R' := fz rB) (ha.up (e1.trans e2)) (fun _ => .inl ⟨_, rfl⟩) (fun x z v F3 H3 F4 H4 hz e3 e4 hr Q q => ?_) F2 H2 (Xt.refl e2.fh)
  cases hz
  obtain ⟨a, kvs, rfl, hd, ad, hl⟩ := hr
  have hk := Mono.mono (r := rk) (e3.trans e4).ff hk
  refine ⟨a, valV kvs (enc k), rfl, by rw [KR.kr (r := rk) (enc := enc) hk]; exact DGet.k hd, q _ _ _ (Xt.refl e4.fh) ?_⟩
  rcases AD.get (KR.inj (r := rk) (enc := enc)) k ad with ⟨c1, c2⟩ | ⟨y, z', c1, c2, _⟩ <;> rw [c1, c2] <;> rfl
theorem keys_isSomeM {β : Type} {m : List (κ × β)} {k : κ} : (aGet m k).isSome = true ↔ k ∈ m.map (·.1) := by
  cases q : aGet m k with
  | none => exact ⟨fun h => absurd h Bool.false_ne_true, fun h => absurd h (aGet_none.mp q)⟩
  | some x => exact ⟨fun _ => List.mem_map.mpr ⟨_, aGet_mem q, rfl⟩, fun _ => rfl⟩
/-- such a dict of one's own: g tells where the lists stand -/
structure OwnM (enc : κ → Key) (r : Rl α) (H0 F H : Hp) (a : Addr) (g : κ → Addr) (m : List (κ × List α)) : Prop where
  w : Own H0 F H a (.dK ((m.map (·.1)).map fun k => (enc k, V.ref (g k))))
  inj : ∀ k ∈ m.map (·.1), ∀ k' ∈ m.map (·.1), g k = g k' → k = k'
  el : ∀ x ∈ m, ∃ vs, Own H0 F H (g x.1) (.lst vs) ∧ Al r F vs x.2 ∧ x.2.length ≤ sizeLine
  nd : (m.map (·.1)).Nodup
  hz : m.length ≤ sizeLine
theorem OwnM.up [Mono r] {H0 F H F1 H1 : Hp} {a : Addr} {g : κ → Addr} {m : List (κ × List α)} (o : OwnM enc r H0 F H a g m) (e : Xt F H F1 H1) : OwnM enc r H0 F1 H1 a g m :=
  ⟨o.w.up e, o.inj, fun x hx => let ⟨vs, h1, h2, h3⟩ := o.el x hx; ⟨vs, h1.up e, h2.mono e.ff, h3⟩, o.nd, o.hz⟩
theorem OwnM.db {H0 F H : Hp} {a : Addr} {g : κ → Addr} {m : List (κ × List α)} (o : OwnM enc r H0 F H a g m) (H1 : Hp) : dbm enc r H1 F H (.ref a) m := by
  refine ⟨a, _, rfl, o.w.at_, ?_, o.hz⟩
  have key : ∀ l : List (κ × List α), (∀ x ∈ l, ∃ vs, Own H0 F H (g x.1) (.lst vs) ∧ Al r F vs x.2 ∧ x.2.length ≤ sizeLine) → AD enc (stl r H) F ((l.map (·.1)).map fun k => (enc k, V.ref (g k))) l := by
    intro l
    induction l with
    | nil => intro _; exact .nil
    | cons x l ih =>
      intro h
      obtain ⟨vs, h1, h2, h3⟩ := h x List.mem_cons_self
      exact .cons ⟨rfl, g x.1, vs, rfl, h1.at_, h2, h3⟩ (ih fun y hy => h y (List.mem_cons_of_mem _ hy))
  exact key m o.el
theorem e_ownM [Mono r] {i : Nat} {a : Addr} {g : κ → Addr} {x : List (κ × List α)} {H0 : Hp} (o : OwnM enc r H0 F H a g x) (h : σ[i]? = some (some (.ref a))) : EvC w (tVar i σ) (dbm enc r) (.ok x) F H := fun F1 H1 e Q q =>
  ⟨_, h, q _ F1 H1 (Xt.refl e.fh) ((o.up e).db _)⟩
end
section
variable {κ α β : Type} [DecidableEq κ] {enc : κ → Key} {r : Rl α} [Mono r] {rk : Rl κ} [Mono rk] [KR rk enc] {c : Cxt β} {D : Ends} {u : L2.TS} {σ : L2.St} {F H : Hp} {i : Nat} {a : Addr} {g : κ → Addr} {d : List (κ × List α)} {n : M κ} {te ty ti : TE}
/-- d = {} -/
theorem sq_newM {k : List (κ × List α) → M β} (e0 : Xt c.F0 c.H0 F H) (h : Po c ((M.ok []).bd k)) (σ' : V → L2.St) (hσ : ∀ v, σ.set i (some v) = σ' v)
    (go : ∀ p F1 H1, Xt F H F1 H1 → Xt c.F0 c.H0 F1 H1 → OwnM enc r c.H0 F1 H1 p (fun _ => 0) [] → Po c (k []) → u D (σ' (.ref p)) H1) : tSeq (tAsg tDNewK (gName i)) u D σ H := fun p hp => by
  show u D (σ.set i (some (.ref p))) _
  rw [hσ]
  have e1 := (Xt.refl e0.fh).newM hp (o := .dK [])
  exact go p F _ e1 (e0.trans e1) ⟨⟨e0.free hp, e0.fh.free hp, upd_same, trivial⟩, fun k hk => (by cases hk), fun x hx => (by cases hx), List.nodup_nil, Nat.zero_le _⟩ h
theorem put_map (inj : ∀ a b, enc a = enc b → a = b) (g : κ → Addr) (ks : List κ) (k : κ) (b : Addr) (xs : List α) (d : List (κ × List α)) (hd : d.map (·.1) = ks) : putK (ks.map fun k => (enc k, V.ref (g k))) (enc k) (.ref b) = ((aPut d k xs).map (·.1)).map fun y => (enc y, V.ref (if y = k then b else g y)) := by
  rw [aPut_keys, hd]
  unfold putK
  have e1 : ((ks.map fun k => (enc k, V.ref (g k))).any fun kv => decide (kv.1 = enc k)) = (aGet d k).isSome := by
    rw [Bool.eq_iff_iff, List.any_eq_true, keys_isSomeM, hd]
    constructor
    · rintro ⟨kv, h1, h2⟩
      obtain ⟨y, hy, rfl⟩ := List.mem_map.mp h1
      have := inj _ _ (of_decide_eq_true h2)
      rw [← this]; exact hy
    · exact fun h => ⟨_, List.mem_map.mpr ⟨k, h, rfl⟩, decide_eq_true rfl⟩
  rw [e1]
  split
  · rw [List.map_map]
    refine List.map_congr_left fun y _ => ?_
    show (if enc y = enc k then (enc y, V.ref b) else (enc y, V.ref (g y))) = _
    by_cases e : y = k
    · subst e; rw [if_pos rfl, if_pos rfl]
    · rw [if_neg (fun z => e (inj _ _ z)), if_neg e]
  · rename_i h
    have hk : k ∉ ks := fun z => h (keys_isSomeM.mpr (by rw [hd]; exact z))
    rw [List.map_append]
    congr 1
    · refine List.map_congr_left fun y hy => ?_
      rw [if_neg (fun e : y = k => hk (e ▸ hy))]
    · show _ = [(enc k, V.ref (if k = k then b else g k))]
      rw [if_pos rfl]
omit [Mono r] [Mono rk] [KR rk enc] in
theorem aPut_cases {d : List (κ × List α)} {k : κ} {x : List α} {q : κ × List α} (h : q ∈ aPut d k x) : (q.1 = k ∧ q.2 = x) ∨ (q ∈ d ∧ q.1 ≠ k) := by
  unfold aPut at h
  split at h
  · obtain ⟨p, hp, rfl⟩ := List.mem_map.mp h
    split
    · rename_i e; exact .inl ⟨e, rfl⟩
    · rename_i e; exact .inr ⟨hp, e⟩
  · rename_i hn
    rcases List.mem_append.mp h with z | z
    · refine .inr ⟨z, fun e => hn ?_⟩
      exact List.any_eq_true.mpr ⟨q, z, decide_eq_true e⟩
    · rw [List.mem_singleton.mp z]; exact .inl ⟨rfl, rfl⟩
omit [Mono r] [Mono rk] [KR rk enc] in
theorem aPut_keymem {d : List (κ × List α)} {k y : κ} {x : List α} : y ∈ (aPut d k x).map (·.1) ↔ y ∈ d.map (·.1) ∨ y = k := by
  rw [aPut_keys]
  split
  · rename_i h
    have := keys_isSomeM.mp h
    exact ⟨.inl, fun z => z.elim id fun e => e ▸ this⟩
  · rw [List.mem_append, List.mem_singleton]
/-- d[k] = a new list -/
theorem sq_putM {m : M (List α)} {k : List (κ × List α) → M β} (o : OwnM enc r c.H0 F H a g d) (hσ : σ[i]? = some (some (.ref a))) (ev : EvC c.w (te σ) (nw r) m F H) (evk : EvC c.w (ty σ) (fz rk) n F H) (e0 : Xt c.F0 c.H0 F H) (h : Po c (m.bd fun x => n.bd fun y => (M.put d y x).bd k))
    (go : ∀ ys g' b o' F1 H1, Xt c.F0 c.H0 F1 H1 → Chg b o' F H F1 H1 → OwnM enc r c.H0 F1 H1 a g' ys → Po c (k ys) → u D σ H1) : tSeq (sDPut (tVar i) ty te) u D σ H := by
  refine EvC.run (C := te σ) ev e0 h fun x v F1 H1 e1 hv hk => ⟨_, hσ, ?_⟩
  refine EvC.run (C := ty σ) (evk.up e1) (e0.trans e1) hk fun y v1 F2 H2 e2 hy hk => ?_
  have e12 := e1.trans e2
  obtain ⟨b, vs, rfl, hb0, hbF, hbH, al, hz⟩ := Up.up (R := nw r) e2 hv
  rcases Po.bd hk with ⟨ys, hy2, hk⟩ | ⟨e, he, _⟩
  · obtain ⟨hl, rfl⟩ := gd_ok hy2
    have o2 := o.up e12
    have inj := KR.inj (r := rk) (enc := enc)
    obtain ⟨c1, c2⟩ := o.w.chg e0 e12 (o := .dK (putK ((d.map (·.1)).map fun k => (enc k, V.ref (g k))) (enc y) (.ref b)))
    have w3 := o.w.set c2 trivial
    have hba : b ≠ a := fun e => by rw [e, o.w.at_] at hb0; cases hb0
    have hgb : ∀ x ∈ d, g x.1 ≠ b := fun x hx e => by
      obtain ⟨us, h1, _⟩ := o.el x hx
      have := h1.at_
      rw [e, hb0] at this; cases this
    have hga : ∀ x ∈ d, g x.1 ≠ a := fun x hx e => by
      obtain ⟨us, h1, _⟩ := o.el x hx
      have := h1.at_
      rw [e, o.w.at_] at this; cases this
    have hgb' : ∀ q ∈ d.map (·.1), g q ≠ b := fun q hq => by
      obtain ⟨x, hx, rfl⟩ := List.mem_map.mp hq
      exact hgb x hx
    refine ⟨a, _, rfl, by rw [KR.kr (r := rk) (enc := enc) hy]; exact DPut.k o2.w.at_ (by rw [List.length_map, List.length_map]; exact hl), go _ (fun q => if q = y then b else g q) _ _ F2 _ c1 c2 ⟨?_, fun q hq q' hq' e => ?_, fun q hq => ?_, aPut_nodup o.nd, by rw [aPut_length]; split <;> omega⟩ hk⟩
    · rw [← put_map inj g (d.map (·.1)) y b x d rfl]; exact w3
    · have e : (if q = y then b else g q) = (if q' = y then b else g q') := e
      rcases aPut_keymem.mp hq with z | z <;> rcases aPut_keymem.mp hq' with z' | z'
      · by_cases e1 : q = y
        · by_cases e2 : q' = y
          · rw [e1, e2]
          · rw [if_pos e1, if_neg e2] at e; exact absurd e.symm (hgb' q' z')
        · by_cases e2 : q' = y
          · rw [if_neg e1, if_pos e2] at e; exact absurd e (hgb' q z)
          · rw [if_neg e1, if_neg e2] at e; exact o.inj q z q' z' e
      · by_cases e1 : q = y
        · rw [e1, z']
        · rw [if_neg e1, if_pos z'] at e; exact absurd e (hgb' q z)
      · by_cases e2 : q' = y
        · rw [z, e2]
        · rw [if_pos z, if_neg e2] at e; exact absurd e.symm (hgb' q' z')
      · rw [z, z']
    · rcases aPut_cases hq with ⟨z1, z2⟩ | ⟨z1, z2⟩
      · refine ⟨vs, ?_, by rw [z2]; exact al, by rw [z2]; exact hz⟩
        show Own c.H0 F2 _ (if q.1 = y then b else g q.1) _
        rw [if_pos z1]
        exact ⟨e0.free hb0, hbF, by rw [upd_ne hba]; exact hbH, trivial⟩
      · obtain ⟨us, h1, h2, h3⟩ := o2.el q z1
        refine ⟨us, ?_, h2, h3⟩
        show Own c.H0 F2 _ (if q.1 = y then b else g q.1) _
        rw [if_neg z2]
        exact ⟨h1.new, h1.nof, by rw [upd_ne (hga q z1)]; exact h1.at_, h1.mu⟩
  · unfold M.put M.gd at he; split at he <;> cases he
/-- d[k][j] = x -/
theorem sq_setM {m : M α} {nj : M Nat} {k : List (κ × List α) → M β} (o : OwnM enc r c.H0 F H a g d) (hσ : σ[i]? = some (some (.ref a))) (ev : EvC c.w (te σ) (fz r) m F H) (evk : EvC c.w (ty σ) (fz rk) n F H) (evi : EvC c.w (ti σ) (fz rNat) nj F H) (e0 : Xt c.F0 c.H0 F H)
    (h : Po c (m.bd fun x => n.bd fun y => (M.of (aGet d y)).bd fun xs => nj.bd fun j => (M.set xs j x).bd fun ys => (M.ok (aPut d y ys)).bd k))
    (go : ∀ ys b o' F1 H1, Xt c.F0 c.H0 F1 H1 → Chg b o' F H F1 H1 → OwnM enc r c.H0 F1 H1 a g ys → Po c (k ys) → u D σ H1) : tSeq (tAsg te (gSub (tDGet (tVar i) ty) ti L2.rSetL)) u D σ H := by
  refine EvC.run (C := te σ) ev e0 h fun x v F1 H1 e1 hv hk => ⟨_, hσ, ?_⟩
  refine EvC.run (C := ty σ) (evk.up e1) (e0.trans e1) hk fun y v1 F2 H2 e2 hy hk => ?_
  have e12 := e1.trans e2
  have inj := KR.inj (r := rk) (enc := enc)
  rcases Po.bd hk with ⟨xs, hxs, hk⟩ | ⟨e, he, _⟩
  · have hxs := of_ok hxs
    have o2 := o.up e12
    obtain ⟨a', kvs, ea, hd, ad, _⟩ := o2.db H2
    cases ea
    rcases AD.get inj y ad with ⟨q1, _⟩ | ⟨z, z', q1, q2, _⟩
    · rw [q1] at hxs; cases hxs
    have hmem := aGet_mem hxs
    obtain ⟨us, u1, u2, u3⟩ := o2.el _ hmem
    have u1 : Own c.H0 F2 H2 (g y) (.lst us) := u1
    have hval : valV ((d.map (·.1)).map fun k => (enc k, V.ref (g k))) (enc y) = some (.ref (g y)) := by
      have hin : y ∈ d.map (·.1) := List.mem_map.mpr ⟨_, hmem, rfl⟩
      generalize d.map (·.1) = ks at hin
      induction ks with
      | nil => cases hin
      | cons k0 ks ih =>
        rw [List.map_cons]
        by_cases e : k0 = y
        · rw [valV_pos (by rw [e]), e]
        · rw [valV_neg (fun q => e (inj _ _ q))]
          exact ih ((List.mem_cons.mp hin).resolve_left fun q => e q.symm)
    refine ⟨a, .ref (g y), rfl, by rw [KR.kr (r := rk) (enc := enc) hy, ← hval]; exact DGet.k o2.w.at_, ?_⟩
    refine EvC.run (C := ti σ) (evi.up e12) (e0.trans e12) hk fun j v2 F3 H3 e3 hj hk => ?_
    have e123 := e12.trans e3
    rcases Po.bd hk with ⟨ys, hys, hk⟩ | ⟨e, he, _⟩
    · obtain ⟨hl, rfl⟩ := gd_ok hys
      have o3 := o2.up e3
      have u3' := u1.up e3
      have al3 : Al r F3 us xs := Al.mono e3.ff u2
      obtain ⟨c1, c2⟩ := u1.chg (e0.trans e12) e3 (o := .lst (us.set j v))
      have hins : (aGet d y).isSome = true := by rw [hxs]; rfl
      have hk2 : (aPut d y (xs.set j x)).map (·.1) = d.map (·.1) := by rw [aPut_keys, if_pos hins]
      have hga : a ≠ g y := fun e => by
        have := o3.w.at_
        rw [e, u3'.at_] at this; cases this
      have c3 : Chg (g y) (.lst (us.set j v)) F H F3 (upd H3 (g y) (.lst (us.set j v))) := ⟨e123.ff, fun b q hb hq => by rw [upd_ne hb]; exact e123.hh _ _ hq, e123.nf, upd_same⟩
      refine ⟨g y, us, j, j, rfl, hj, u3'.at_, ?_, go _ _ _ F3 _ c1 c3 ⟨?_, by rw [hk2]; exact o.inj, fun q hq => ?_, by rw [hk2]; exact o.nd, by rw [aPut_length, if_pos hins]; exact o.hz⟩ hk⟩
      · unfold ixN
        rw [al3.len, if_pos (by omega), if_pos (by omega), Int.toNat_natCast]
      · rw [hk2]
        exact ⟨o3.w.new, o3.w.nof, by rw [upd_ne hga]; exact o3.w.at_, trivial⟩
      · rcases aPut_cases hq with ⟨z1, z2⟩ | ⟨z1, z2⟩
        · refine ⟨us.set j v, by rw [z1]; exact u1.set c2 trivial, by rw [z2]; exact Al.st (Mono.mono (r := r) (e2.ff.trans e3.ff) hv) j al3, by rw [z2, List.length_set]; exact u3⟩
        · obtain ⟨ws, w1, w2, w3⟩ := o3.el q z1
          have hne : g q.1 ≠ g y := fun e => z2 (o.inj _ (List.mem_map.mpr ⟨q, z1, rfl⟩) _ (List.mem_map.mpr ⟨_, hmem, rfl⟩) e)
          exact ⟨ws, ⟨w1.new, w1.nof, by rw [upd_ne hne]; exact w1.at_, w1.mu⟩, w2, w3⟩
    · unfold M.set M.gd at he; split at he <;> cases he
  · cases hg : aGet d y with
    | none => rw [hg] at he; cases he
    | some z => rw [hg] at he; cases he
end
end SF
/-! ### a text times a number -/
namespace SF
open PySem PySem.Spec PyProof.Rows L2
theorem fold_rep (l : List Nat) : ∀ (n : Nat) (z : Array Nat), ((List.replicate n (S l).cps).foldl (· ++ ·) z).toList = z.toList ++ (List.replicate n l).flatten
  | 0, z => by simp
  | n + 1, z => by
    rw [List.replicate_succ, List.foldl_cons, fold_rep l n, List.replicate_succ, List.flatten_cons]
    simp [S_cps]
theorem mul_S (l : List Nat) (n : Nat) : Txt.mul (S l) (n : Int) = S (List.replicate n l).flatten := by
  have ext : ∀ {x y : Str}, x.cps.toList = y.cps.toList → x = y := fun {x y} h => by
    obtain ⟨⟨a⟩⟩ := x
    obtain ⟨⟨b⟩⟩ := y
    cases h; rfl
  unfold Txt.mul
  split
  · rename_i h
    have : n = 0 := by omega
    subst this
    exact ext (by rw [S_cps]; rfl)
  · split
    · rename_i h1 h
      rw [Bool.or_eq_true] at h
      rcases h with h | h
      · have h := eq_of_beq h
        have : n = 1 := by omega
        subst this
        exact ext (by rw [S_cps, S_cps]; simp)
      · have h := eq_of_beq h
        rw [S_len] at h
        obtain rfl := List.length_eq_zero_iff.mp h
        exact ext (by rw [S_cps, S_cps]; simp)
    · refine ext ?_
      show ((List.replicate n (S l).cps).foldl (· ++ ·) #[]).toList = _
      rw [fold_rep, S_cps]; simp
theorem mulOk_S {l : List Nat} {n : Nat} (hl : l.length ≤ 1000) (hn : n ≤ 1000) : MulOk (S l) (n : Int) := mulOk_of 1000 1000 (by rw [S_len]; exact hl) (by omega) (by omega) (by decide) (by decide)
section
variable {X : Cx}
theorem op_mul_str : OpR X (binaryOp .Mult) (fun x y H Q => ∃ (l : List Nat) (n : Nat), x = .str (S l) ∧ y = .int n ∧ l.length ≤ 1000 ∧ n ≤ 1000 ∧ Q (.str (S (List.replicate n l).flatten)) H) := by
  intro pins s σ H x y v u Q I rx ry h
  obtain ⟨l, n, rfl, rfl, hl, hn, q⟩ := h
  obtain ⟨t, rfl⟩ := rx
  obtain ⟨t', rfl⟩ := ry
  refine SB.mul (mulOk_S hl hn) fun t' tk => ?_
  rw [mul_S]
  exact ⟨.str _, H, I.tok _, ⟨_, rfl⟩, q⟩
variable {w : Xw} {σ : L2.St} {F H : Hp} {ta tb : TE}
theorem rep_len (l : List Nat) : ∀ n, (List.replicate n l).flatten.length = n * l.length
  | 0 => by simp
  | n + 1 => by rw [List.replicate_succ, List.flatten_cons, List.length_append, rep_len l n, Nat.succ_mul]; omega
theorem e_mulS {m : M (List Nat)} {n : M Nat} (ha : EvC w (ta σ) (fz qS) m F H) (hb : EvC w (tb σ) (fz rNat) n F H) : EvC w (tOp (fun x y H Q => ∃ (l : List Nat) (n : Nat), x = .str (S l) ∧ y = .int n ∧ l.length ≤ 1000 ∧ n ≤ 1000 ∧ Q (.str (S (List.replicate n l).flatten)) H) ta tb σ) (fz qS) (m.bd fun x => n.bd fun y => M.gd (x.length ≤ 1000 ∧ y ≤ 1000) (.ok (List.replicate y x).flatten)) F H :=
  e_op ha hb (fun _ _ => gd_or) fun hz h1 h2 s Q q => by
    obtain ⟨⟨g1, g2⟩, rfl⟩ := gd_ok hz
    refine ⟨_, _, h1.1, h2, g1, g2, q _ _ _ (Xt.refl s) ⟨rfl, ?_⟩⟩
    rw [rep_len, sl64]
    have := Nat.mul_le_mul g2 g1
    omega
end
end SF
/-! ### sorted(d) of a dict whose keys are tuples of whole numbers -/
namespace SF
open PySem PySem.Spec PyProof.Rows L2
def encTk (b : Addr × List Int) : PyData := .tuple (b.2.map .int)
theorem room8 {k : Nat} {A : Around} (r : Room k A) : A.units + 8 < cLine := by have := r.units; omega
theorem readsAll_ints {h : Heap} : ∀ {k : List Int} {us : List Value}, Vals (k.map V.int) us → ReadsAll h us (k.map .int) []
  | [], _, .nil => .nil
  | n :: k, _, .cons r t => by
    obtain ⟨tk, rfl⟩ := r
    exact .cons (as := []) (bs := []) (.int n tk) (readsAll_ints t)
theorem dataLe_tk : PySem.W.dataLe false encTk = fun p q => decide (p.2 ≤ q.2) := by
  funext p q
  show (!PySem.W.dataLt (.tuple (q.2.map .int)) (.tuple (p.2.map .int))) = _
  rw [PySem.W.dataLt_tuple]
  show (!PySem.W.rowLt (q.2.map .int) (p.2.map .int)) = _
  rw [PySem.W.dataLt_ints]
  by_cases h : q.2 < p.2
  · have h' : ¬ p.2 ≤ q.2 := fun r => List.not_lt.mpr r h
    simp [h, h']
  · have h' : p.2 ≤ q.2 := List.not_lt.mp h
    simp [h, h']
def rSortDT : List V → Hp → VK → Prop := fun xs H Q => ∃ (d : Addr) (kvs : List (List Key × V)) (ks : List (List Int)), xs = [V.ref d] ∧ Rd H d (.dT kvs) ∧ kvs.map (·.1) = ks.map (fun k : List Int => k.map Sum.inl) ∧ (∀ k ∈ ks, k ≠ []) ∧
  ∀ p (bs : List (Addr × List Int)), H p = none → bs.map (·.2) = ks.mergeSort (fun a b => decide (a ≤ b)) → (∀ b ∈ bs, H b.1 = some (.tup (b.2.map V.int))) → Q (.ref p) (upd H p (.lst (bs.map fun b => V.ref b.1)))
theorem pair_keys {H : Hp} : ∀ {kvs : List (List Key × V)} {ks : List (List Int)} {as : List Addr}, kvs.map (·.1) = ks.map (fun k : List Int => k.map Sum.inl) → IsKeys H kvs as →
    ∃ bs : List (Addr × List Int), bs.map (·.1) = as ∧ bs.map (·.2) = ks ∧ ∀ b ∈ bs, H b.1 = some (.tup (b.2.map V.int))
  | [], [], _, _, h => by cases h; exact ⟨[], rfl, rfl, fun b hb => (by cases hb)⟩
  | [], _ :: _, _, e, _ => by cases e
  | _ :: _, [], _, e, _ => by cases e
  | kv :: kvs, k :: ks, _, e, h => by
    cases h with
    | @cons _ b _ as h t =>
      rw [List.map_cons, List.map_cons] at e
      injection e with e1 e2
      obtain ⟨bs, q1, q2, q3⟩ := pair_keys e2 t
      refine ⟨(b, k) :: bs, by rw [List.map_cons, q1], by rw [List.map_cons, q2], fun c hc => ?_⟩
      rcases List.mem_cons.mp hc with rfl | hc
      · rw [e1] at h
        rw [h, List.map_map]
        rfl
      · exact q3 c hc
theorem call_sorted_dT {X : Cx} (hc : X.calm = true) (hu : X.A.units + 8 < cLine) : CallR X (.builtin "sorted") rSortDT := by
  intro pins s σ H xs us Q I r h
  obtain ⟨d, kvs, kk, rfl, hd, hkk, hne, q⟩ := h
  obtain ⟨u, rfl, rx⟩ := r.one
  cases rx
  obtain ⟨z, hs, ks, pr, o, es, ep, ho, hx, hdt, he, hn⟩ := (show ObjOk X.prog X.w H s.heap d (.dT kvs) from hd.ok I.hok)
  have l1 : es.size = ks.length := size_of_entries he
  have l2 : kvs.length = ks.length := Paired.length pr
  refine Calls.call_function_entry PyProof.Rows.kind_sorted PyProof.Rows.plain_sorted PyProof.Rows.entry_sorted (PyProof.Rows.args_sorted1 _) ?_
  unfold Builtin.«sorted»
  refine wpAny_bind (m := checkCount "sorted" 1 1 _) (wpAny_pure ?_)
  refine wpAny_bind (PySem.W.kdu_collect (A := X.A.in1) (kdl_raw hs hx hdt) (I.ok.hd hc) ho (by omega) fun h' tk acc kp it => ?_)
  have ea : acc.toList = ks.map fun x => Value.ref x.2.1 := by
    have hl : acc.toList.length = ks.length := by rw [Array.length_toList, it.1]; exact l1
    apply List.ext_getElem?
    intro j
    rw [List.getElem?_map]
    cases hj : acc.toList[j]? with
    | none =>
      have h1 := List.getElem?_eq_none_iff.mp hj
      rw [List.getElem?_eq_none (by omega)]
      all_goals rfl
    | some v =>
      obtain ⟨en, hen, hv⟩ := it.2 j v (by rw [← Array.getElem?_toList]; exact hj)
      have qe := entry_at he j
      rw [hen] at qe
      cases hb : ks[j]? with
      | none =>
        rw [hb] at qe
        exact nomatch (show some en = none from qe)
      | some b =>
        rw [hb] at qe
        have e2 : en = entryOfKey (tupleKind (mixKind X.prog X.w)) b := Option.some.inj qe
        rw [hv, e2]
        all_goals rfl
  obtain ⟨bs, q1, q2, q3⟩ := pair_keys hkk (isKeys_of pr)
  have eb : acc.toList = bs.map fun b => Value.ref b.1 := by
    have := congrArg (List.map Value.ref) q1
    rw [List.map_map, List.map_map] at this
    rw [ea]
    exact this.symm
  have hbl : bs.length = ks.length := by have := congrArg List.length q1; rw [List.length_map, List.length_map] at this; exact this
  have I1 : Inv X pins σ H { s with heap := h', toks := tk } := I.kept kp
  refine wpAny_bind (wpAny_newList ?_ (by rw [eb, List.length_map]; omega))
  have hoL : (h'.push (seqObj "list" acc.toList.toArray 0)).get? h'.objs.size = some (seqObj "list" acc.toList.toArray 0) := Heap.get?_push_size _ rfl
  have eR : PySem.W.EachIs (fun v (b : Addr × List Int) => v = Value.ref b.1) acc.toList bs := by
    rw [eb]
    clear q1 q2 q3 eb ea hbl
    induction bs with
    | nil => exact .nil
    | cons b bs ih => exact .cons rfl ih
  have eRd : PySem.W.EachIs (fun v (b : Addr × List Int) => ∃ as, Reads (h'.push (seqObj "list" acc.toList.toArray 0)) v (encTk b) as ∧ h'.objs.size ∉ as) acc.toList bs := by
    generalize seqObj "list" acc.toList.toArray 0 = ob
    rw [eb]
    clear q1 q2 eb ea hbl eR
    induction bs with
    | nil => exact .nil
    | cons b bs ih =>
      refine .cons ?_ (ih fun c hc => q3 c (List.mem_cons_of_mem _ hc))
      obtain ⟨its, rv, ⟨o, ho, hcl, n, hdat⟩, _⟩ := I1.tuple (SqT.of (q3 b List.mem_cons_self))
      exact ⟨[], .tuple (Heap.get?_push_of_some _ ho) hcl hdat (by simpa using readsAll_ints rv), by simp⟩
  have hal : PySem.W.AllAlike (bs.map encTk) := PySem.W.AllAlike.of fun b b' => by
    show PySem.W.alike (.tuple (b.2.map .int)) (.tuple (b'.2.map .int)) = true
    simp only [PySem.W.alike]
    exact PySem.W.alike_ints _ _
  have hso : PySem.W.Sortable (bs.map encTk) := .inl fun x hx => by
    obtain ⟨b, hb, rfl⟩ := List.mem_map.mp hx
    have hk : b.2 ∈ kk := by rw [← q2]; exact List.mem_map.mpr ⟨b, hb, rfl⟩
    cases e : b.2 with
    | nil => exact absurd e (hne _ hk)
    | cons n r => exact ⟨.int n, r.map .int, by unfold encTk; rw [e]; rfl⟩
  show wpAny _ _ _ _ _ { s with heap := h'.push (seqObj "list" acc.toList.toArray 0), toks := tk }
  refine wpAny_bind (wpAny_holding (PySem.W.list_sort_data (s := { s with heap := h'.push (seqObj "list" acc.toList.toArray 0), toks := tk }) hoL eR eRd hal hso (by rw [hbl]; omega) (fun b hb => ?_) fun out g1 g2 => ?_))
  · have : (encTk b).depth ≤ 1 := by
      unfold encTk
      simp only [PyData.depth, PySem.W.depth_ints]
      omega
    show X.A.in1.units + 1 + _ < cLine
    have hi : X.A.in1.units ≤ X.A.units + 1 := by show X.A.units + 1 ≤ _; omega
    omega
  obtain ⟨e', he'⟩ := PyProof.Rows.sortedHeap_at (vs := acc.toList) (out := out.toArray) hoL
  have hsb : bs.mergeSort (PySem.W.dataLe false encTk) = bs.mergeSort fun p q => decide (p.2 ≤ q.2) := by rw [dataLe_tk]
  rw [hsb] at g2
  have hlen : ((bs.mergeSort fun p q => decide (p.2 ≤ q.2)).map fun b => V.ref b.1).length ≤ sizeLine := by
    rw [List.length_map, List.length_mergeSort, hbl]; omega
  have hv : Vals ((bs.mergeSort fun p q => decide (p.2 ≤ q.2)).map fun b => V.ref b.1) out := by
    clear hlen he' hsb
    generalize (bs.mergeSort fun p q => decide (p.2 ≤ q.2)) = cs at g2
    clear g1
    induction g2 with
    | nil => exact .nil
    | cons h t ih => exact .cons h ih
  refine wpAny_pure ⟨_, rfl, .ref h'.objs.size, upd H h'.objs.size (.lst ((bs.mergeSort fun p q => decide (p.2 ≤ q.2)).map fun b => V.ref b.1)), I1.laid (t' := tk) (fun b u e => ?_) (Nat.le_refl _)
    (show ObjOk X.prog X.w _ _ _ (.lst _) from ⟨hlen, out, e', hv, he'⟩), rfl, q _ _ (I1.hok.fresh (Nat.le_refl _)) ?_ fun b hb => q3 b ((List.mergeSort_perm _ _).mem_iff.mp hb)⟩
  · have hb : b < h'.objs.size := Heap.lt_size e
    rw [PyProof.Rows.sortedHeap_old (Nat.ne_of_lt hb) (by rw [size_push']; exact Nat.lt_succ_of_lt hb)]
    exact Heap.get?_push_of_some _ e
  · rw [← q2]
    exact List.map_mergeSort fun a _ b _ => rfl
/-! ### sorted(d) of a dict whose keys are texts, any length -/
def rSortDS : List V → Hp → VK → Prop := fun xs H Q => ∃ (a : Addr) (kvs : List (Key × V)) (ks : List Str), xs = [.ref a] ∧ Rd H a (.dK kvs) ∧ kvs.map (·.1) = ks.map Sum.inr ∧
  ∀ p, H p = none → Q (.ref p) (upd H p (.lst ((ks.mergeSort fun a b => decide (a.cps.toList ≤ b.cps.toList)).map V.str)))
theorem each_strs : ∀ {us : List Value} {ks : List Str}, us.length = ks.length → (∀ (j : Nat) (v : Value), us[j]? = some v → ∃ (x : Str) (t : Tok), ks[j]? = some x ∧ v = Value.str x t) → PySem.W.EachIs (fun v b => ∃ t, v = Value.str b t) us ks
  | [], [], _, _ => .nil
  | u :: us, k :: ks, hl, h => by
    obtain ⟨x, t, e1, e2⟩ := h 0 u rfl
    have e1' : k = x := Option.some.inj e1
    subst e1'
    refine .cons ⟨t, e2⟩ (each_strs (by simpa using hl) fun j v e => ?_)
    obtain ⟨x, t, a, b⟩ := h (j + 1) v (by simpa using e)
    exact ⟨x, t, by simpa using a, b⟩
  | [], _ :: _, hl, _ => by simp at hl
  | _ :: _, [], hl, _ => by simp at hl
theorem call_sorted_dS {X : Cx} (hcalm : X.calm = true) (hu : X.A.units + 8 < cLine) : CallR X (.builtin "sorted") rSortDS := by
  intro pins s σ H xs us Q I r q
  obtain ⟨a, kvs, ks, ex, hd, hks, q⟩ := q
  subst ex
  obtain ⟨u, eu, rx⟩ := vals1 r
  subst eu
  cases rx
  obtain ⟨z, lo, vs, rel, dd⟩ := dk_rd I.hok hd
  obtain ⟨ep, hat⟩ := dd.dictAt
  have hkeys : vs.map (·.1) = ks.map Sum.inr := rel.keys.symm.trans hks
  have hl : vs.length = ks.length := by
    have e := congrArg List.length hkeys
    rw [List.length_map, List.length_map] at e
    exact e
  have h16 : vs.length ≤ sizeLine := by rw [← rel.length]; exact z
  refine Calls.call_function_entry PyProof.Rows.kind_sorted PyProof.Rows.plain_sorted PyProof.Rows.entry_sorted (PyProof.Rows.args_sorted1 _) ?_
  unfold Builtin.«sorted»
  refine wpAny_bind (m := checkCount "sorted" 1 1 _) (wpAny_pure ?_)
  refine wpAny_bind (PySem.W.kdu_collect (A := X.A.in1) (PySem.W.kdl_dict (knd := mixKind X.prog X.w) (kvs := vs) (ep := ep) lo) (I.ok.hd hcalm) hat h16 fun h' tk acc hk hacc => ?_)
  have hal : acc.toList.length = ks.length := by rw [Array.length_toList, hacc.1, hl]
  have eR : PySem.W.EachIs (fun v (b : Str) => ∃ t, v = Value.str b t) acc.toList ks := each_strs hal fun j v e => by
    obtain ⟨k, x, e1, e2⟩ := hacc.2 j v (by rw [← Array.getElem?_toList]; exact e)
    have e3 : (vs.map (·.1))[j]? = some k := by rw [List.getElem?_map, e1]; all_goals rfl
    rw [hkeys, List.getElem?_map] at e3
    cases e4 : ks[j]? with
    | none => rw [e4] at e3; cases e3
    | some y =>
      rw [e4] at e3
      have e5 : Sum.inr y = k := Option.some.inj e3
      subst e5
      obtain ⟨t, ev⟩ := Value.isStrOf_shape (x := y) (v := v) e2
      exact ⟨y, t, rfl, ev⟩
  have I1 : Inv X pins σ H { s with heap := h', toks := tk } := I.kept hk
  refine wpAny_bind (wpAny_newList ?_ (by rw [hal, ← hl]; exact h16))
  have hoL : (h'.push (seqObj "list" acc.toList.toArray 0)).get? h'.objs.size = some (seqObj "list" acc.toList.toArray 0) := Heap.get?_push_size _ rfl
  have eRd : PySem.W.EachIs (fun v (b : Str) => ∃ as, Reads (h'.push (seqObj "list" acc.toList.toArray 0)) v (PyData.str b) as ∧ h'.objs.size ∉ as) acc.toList ks := by
    generalize seqObj "list" acc.toList.toArray 0 = ob
    refine eR.mono fun v b ⟨t, e⟩ => ⟨[], by rw [e]; exact .str b t, by simp⟩
  have hall : PySem.W.AllAlike (ks.map PyData.str) := PySem.W.AllAlike.of fun b b' => by simp [PySem.W.alike]
  have hso : PySem.W.Sortable (ks.map PyData.str) := PySem.W.Sortable.others fun b => ⟨by simp, by simp⟩
  show wpAny _ _ _ _ _ { s with heap := h'.push (seqObj "list" acc.toList.toArray 0), toks := tk }
  refine wpAny_bind (wpAny_holding (PySem.W.list_sort_data (s := { s with heap := h'.push (seqObj "list" acc.toList.toArray 0), toks := tk }) (enc := PyData.str) hoL eR eRd hall hso (by rw [← hl]; exact h16) (fun b hb => ?_) fun out g1 g2 => ?_))
  · have : (PyData.str b).depth = 0 := by simp [PyData.depth]
    have hi : X.A.in1.units ≤ X.A.units + 1 := by show X.A.units + 1 ≤ _; omega
    omega
  obtain ⟨e', he'⟩ := PyProof.Rows.sortedHeap_at (vs := acc.toList) (out := out.toArray) hoL
  have hsb : ks.mergeSort (PySem.W.dataLe false PyData.str) = ks.mergeSort fun a b => decide (a.cps.toList ≤ b.cps.toList) := by
    rw [show PySem.W.dataLe false PyData.str = fun a b : Str => decide (a.cps.toList ≤ b.cps.toList) from PySem.W.dataLe_str (fun b : Str => b)]
  rw [hsb] at g2
  have hlen : ((ks.mergeSort fun a b => decide (a.cps.toList ≤ b.cps.toList)).map V.str).length ≤ sizeLine := by
    rw [List.length_map, List.length_mergeSort, ← hl]; exact h16
  have hv : Vals ((ks.mergeSort fun a b => decide (a.cps.toList ≤ b.cps.toList)).map V.str) out := by
    clear hlen he' hsb
    generalize (ks.mergeSort fun a b => decide (a.cps.toList ≤ b.cps.toList)) = cs at g2
    clear g1
    induction g2 with
    | nil => exact .nil
    | cons h t ih => exact .cons h ih
  refine wpAny_pure ⟨_, rfl, .ref h'.objs.size, upd H h'.objs.size (.lst ((ks.mergeSort fun a b => decide (a.cps.toList ≤ b.cps.toList)).map V.str)), I1.laid (t' := tk) (fun b u e => ?_) (Nat.le_refl _)
    (show ObjOk X.prog X.w _ _ _ (.lst _) from ⟨hlen, out, e', hv, he'⟩), rfl, q _ (I1.hok.fresh (Nat.le_refl _))⟩
  have hb : b < h'.objs.size := Heap.lt_size e
  rw [PyProof.Rows.sortedHeap_old (Nat.ne_of_lt hb) (by rw [size_push']; exact Nat.lt_succ_of_lt hb)]
  exact Heap.get?_push_of_some _ e
end SF
namespace SF
open PySem PySem.Spec PyProof.Rows L2
@[reducible] def memI {α : Type} [DecidableEq α] (x : α) (xs : List α) : Decidable (x ∈ xs) := inferInstance
def le3 (a b : Nat × Nat × Nat) : Bool := decide (a.1 < b.1 ∨ (a.1 = b.1 ∧ (a.2.1 < b.2.1 ∨ (a.2.1 = b.2.1 ∧ a.2.2 ≤ b.2.2))))
def sort3 (l : List (Nat × Nat × Nat)) : List (Nat × Nat × Nat) := l.mergeSort le3
def row3 (a : Nat × Nat × Nat) : List Int := [(a.1 : Int), (a.2.1 : Int), (a.2.2 : Int)]
theorem row3_le (a b : Nat × Nat × Nat) : decide (row3 a ≤ row3 b) = le3 a b := by
  unfold row3 le3
  congr 1
  apply propext
  rw [List.cons_le_cons_iff, List.cons_le_cons_iff, List.cons_le_cons_iff]
  simp only [List.nil_le, and_true]
  omega
theorem row3_sort (l : List (Nat × Nat × Nat)) : (sort3 l).map row3 = (l.map row3).mergeSort fun a b => decide (a ≤ b) := by
  unfold sort3
  exact List.map_mergeSort fun a _ b _ => (row3_le a b).symm
/-- tuples that stand may be frozen -/
theorem Xt.tups {α : Type} {F H : Hp} (f : α → List V) : ∀ (bs : List (Addr × α)) {F1 : Hp}, Xt F H F1 H → (∀ b ∈ bs, H b.1 = some (.tup (f b.2))) → ∃ F2, Xt F H F2 H ∧ Same F1 F2 ∧ ∀ b ∈ bs, F2 b.1 = some (.tup (f b.2))
  | [], F1, e, _ => ⟨F1, e, Same.refl _, fun b hb => (by cases hb)⟩
  | b :: bs, F1, e, h => by
    have e1 := e.tup (h b List.mem_cons_self)
    obtain ⟨F2, e2, s2, h2⟩ := Xt.tups f bs e1 fun c hc => h c (List.mem_cons_of_mem _ hc)
    have s1 : Same F1 (upd F1 b.1 (.tup (f b.2))) := ((Xt.refl e.fh).tup (h b List.mem_cons_self)).ff
    refine ⟨F2, e2, s1.trans s2, fun c hc => ?_⟩
    rcases List.mem_cons.mp hc with rfl | hc
    · exact s2 _ _ upd_same
    · exact h2 c hc
theorem ad_keys3 {γ : Type} {F : Hp} {r : Rl γ} : ∀ {kvs : List (List Key × V)} {m : List ((Nat × Nat × Nat) × γ)}, AD (encT3 encU encU encU) r F kvs m → kvs.map (·.1) = ((m.map (·.1)).map row3).map (fun k : List Int => k.map Sum.inl)
  | _, _, .nil => rfl
  | _, _, .cons h t => by
    rw [List.map_cons, List.map_cons, List.map_cons, List.map_cons, ad_keys3 t, h.1]
    rfl
theorem al_bs3 {F : Hp} : ∀ {bs : List (Addr × List Int)} {l : List (Nat × Nat × Nat)}, bs.map (·.2) = l.map row3 → (∀ b ∈ bs, F b.1 = some (.tup (b.2.map V.int))) → Al (qT3 rNat rNat rNat) F (bs.map fun b => V.ref b.1) l
  | [], [], _, _ => .nil
  | [], _ :: _, e, _ => by cases e
  | _ :: _, [], e, _ => by cases e
  | b :: bs, x :: l, e, h => by
    rw [List.map_cons, List.map_cons] at e
    injection e with e1 e2
    refine .cons ⟨b.1, _, _, _, rfl, ?_, rfl, rfl, rfl⟩ (al_bs3 e2 fun c hc => h c (List.mem_cons_of_mem _ hc))
    rw [h b List.mem_cons_self, e1]
    rfl
section
variable {w : Xw} {σ : L2.St} {F H : Hp} {ta : TE}
theorem e_sortDT {γ : Type} {r : Rl γ} [Mono r] {m : M (List ((Nat × Nat × Nat) × γ))} (ha : EvC w (ta σ) (dbT (encT3 encU encU encU) r) m F H) : EvC w (tCB rSortDT (tCons ta tNil) σ) (nw (qT3 rNat rNat rNat)) (m.bd fun x => .ok (sort3 (x.map (·.1)))) F H :=
  e_cb1 ha (fun _ => .inl ⟨_, rfl⟩) fun {x y v F2 H2} hz h1 s Q q => by
    cases hz
    obtain ⟨a, kvs, rfl, e, ad, hz⟩ := h1
    refine ⟨a, kvs, (x.map (·.1)).map row3, rfl, .inl e, ad_keys3 ad, fun k hk => ?_, fun p bs hp hb hbs => ?_⟩
    · obtain ⟨t, _, rfl⟩ := List.mem_map.mp hk
      exact fun e => by cases e
    · rw [← row3_sort] at hb
      obtain ⟨F3, e3, s3, h3⟩ := Xt.tups (fun k : List Int => k.map V.int) bs (Xt.refl s) hbs
      have hp3 : F3 p = none := e3.fh.free hp
      exact q _ _ _ (e3.newM hp) ⟨p, _, rfl, hp, hp3, upd_same, al_bs3 hb h3, by rw [show (sort3 (x.map (·.1))).length = x.length from by unfold sort3; rw [List.length_mergeSort, List.length_map]]; exact hz⟩
theorem ad_keysS {α : Type} {r : Rl α} {F : Hp} : ∀ {kvs : List (Key × V)} {m : List (List Nat × α)}, AD encS' r F kvs m → kvs.map (·.1) = ((m.map (·.1)).map S).map Sum.inr
  | _, _, .nil => rfl
  | _, _, .cons h t => by
    rw [List.map_cons, List.map_cons, List.map_cons, List.map_cons, ad_keysS t, h.1]
    rfl
theorem al_strs {F : Hp} : ∀ {l : List (List Nat)}, (∀ x ∈ l, x.length ≤ sizeLine) → Al qS F ((l.map S).map V.str) l
  | [], _ => .nil
  | x :: l, h => .cons ⟨rfl, h x List.mem_cons_self⟩ (al_strs fun y hy => h y (List.mem_cons_of_mem _ hy))
def sortS (l : List (List Nat)) : List (List Nat) := l.mergeSort fun a b => decide (a ≤ b)
theorem sortS_S (l : List (List Nat)) : (sortS l).map S = (l.map S).mergeSort fun a b => decide (a.cps.toList ≤ b.cps.toList) := by
  unfold sortS
  exact List.map_mergeSort fun a _ b _ => by simp
theorem e_sortDS {α : Type} {r : Rl α} [Mono r] {m : M (List (List Nat × α))} (ha : EvC w (ta σ) (db encS' r) m F H) : EvC w (tCB rSortDS (tCons ta tNil) σ) (nw qS) (m.bd fun x => M.gd (((x.map (·.1)).all fun y => decide (y.length ≤ 1000)) = true) (.ok (sortS (x.map (·.1))))) F H :=
  e_cb1 ha (fun _ => gd_or) fun {x y v F2 H2} hz h1 s Q q => by
    obtain ⟨hk, rfl⟩ := gd_ok hz
    obtain ⟨a, kvs, rfl, e, ad, hz⟩ := h1
    refine ⟨a, kvs, (x.map (·.1)).map S, rfl, .inl e, ad_keysS ad, fun p hp => ?_⟩
    rw [← sortS_S]
    have hA : ∀ y ∈ sortS (x.map (·.1)), y.length ≤ sizeLine := fun y hy => by
      have hy2 : y ∈ x.map (·.1) := (List.mergeSort_perm _ _).mem_iff.mp hy
      have := of_decide_eq_true (List.all_eq_true.mp hk y hy2)
      rw [sl64]; omega
    obtain ⟨x1, x2⟩ := nw_new (r := qS) (H := H2) (F := F2) (vs := ((sortS (x.map (·.1))).map S).map V.str) (xs := sortS (x.map (·.1))) s hp (al_strs fun y hy => hA y hy) (by unfold sortS; rw [List.length_mergeSort, List.length_map]; exact hz)
    exact q _ _ _ x1 x2
theorem e_intB {m : M Bool} (ha : EvC w (ta σ) (fz rB) m F H) : EvC w (tCB (fun xs H Q => (∃ i, xs = [.int i] ∧ Q (.int i) H) ∨ ∃ k, xs = [.bl k] ∧ Q (.int (if k then 1 else 0)) H) (tCons ta tNil) σ) (fz rNat) (m.bd fun x => .ok (if x = true then 1 else 0)) F H :=
  e_cb1 ha (fun _ => .inl ⟨_, rfl⟩) fun {x y v F2 H2} hz h1 s Q q => by
    cases hz
    refine .inr ⟨x, by rw [show v = _ from h1], q _ _ _ (Xt.refl s) ?_⟩
    cases x <;> rfl
theorem e_tupLP {α : Type} {r : Rl α} [Mono r] {ts : TA} {xs : List α} (hs : EvA w ts σ (ral r) (fun f => f xs) F H) (hl : xs.length ≤ 1000) : EvC w (tTup ts σ) (fz (qTL r)) (.ok xs) F H := by
  have h : EvC w (tTup ts σ) (fz (qTL r)) (M.gd (xs.length ≤ sizeLine) (.ok xs)) F H := e_tupL hs
  rw [M.gd_pos (by rw [sl64]; omega)] at h
  exact h
/-- a call with defaults -/
theorem e_callD {γ τ τ0 : Type} {Rs0 : Hp → Hp → Hp → List V → τ0 → Prop} {Rs : Hp → Hp → Hp → List V → τ → Prop} {rr : R3 γ} [Dn rr] {f : τ → M γ} {g : τ0 → τ} {cl : Nat → Addr} {E' : XK} {ts : TA} {ds : List V} {T : ∀ {γ' : Type}, (τ0 → M γ') → M γ'} (hw : ¬ w.on)
    (hd : ∀ {H0 F H : Hp} {vs : List V} {x : τ0}, Rs0 H0 F H vs x → Rs H0 F H (vs ++ ds) (g x)) (hs : EvA w ts σ Rs0 T F H) :
    EvC w (tCall (Pm False cl Rs rr f) ds E' ts σ) rr (T fun x => f (g x)) F H := fun F0 H0 e0 => by
  refine hs F0 H0 e0 (fun vs H Q => Pm False cl Rs rr f (vs ++ ds) H Q E') rr (fun x => f (g x)) fun x vs F2 H2 e2 hr => ?_
  cases hf : f (g x) with
  | bad => trivial
  | exc e => exact fun o => absurd o.1 hw
  | ok y =>
    refine fun Q q => ⟨F2, g x, e2.fh, hd hr, ?_⟩
    rw [hf]
    exact fun v F' H' e h => q v F' H' e h
end
end SF
/-! ### a list that still changes is handed to a def that only reads it and answers a text or a number -/
namespace SF
open PySem PySem.Spec PyProof.Rows L2
class Thaw {τ : Type} (Rs Rs' : Hp → Hp → Hp → List V → τ → Prop) : Prop where
  th : ∀ {H0 F H vs x}, Same F H → Rs H0 F H vs x → ∃ F', Same F F' ∧ Same F' H ∧ Rs' H F' H vs x
class Ps {τ : Type} (Rs : Hp → Hp → Hp → List V → τ → Prop) : Prop where
  ps : ∀ {H0 H0' F F' H vs x}, Same F F' → Rs H0 F H vs x → Rs H0' F' H vs x
instance : Thaw ran ran := ⟨fun s h => ⟨_, Same.refl _, s, h⟩⟩
instance {α τ : Type} {R : Rl α} [Mono R] {Rs Rs' : Hp → Hp → Hp → List V → τ → Prop} [Thaw Rs Rs'] : Thaw (rac (fz R) Rs) (rac (fz R) Rs') := ⟨fun s ⟨v, us, e, h1, h2⟩ => by
  obtain ⟨F', a, b, c⟩ := Thaw.th (Rs' := Rs') s h2
  exact ⟨F', a, b, v, us, e, Mono.mono (r := R) a h1, c⟩⟩
instance {α : Type} {r : Rl α} [Mono r] : Thaw (rac (lb r) ran) (rac (fz (qL r)) ran) := ⟨fun {H0 F H vs x} s ⟨v, us, e, ⟨a, ws, ev, ha, al, hz⟩, h2⟩ => by
  have hs : Same F (upd F a (.lst ws)) := fun b o q => by
    by_cases hb : b = a
    · subst hb
      rw [upd_same]
      have := s _ _ q
      rw [ha] at this; exact this
    · rw [upd_ne hb]; exact q
  refine ⟨upd F a (.lst ws), hs, fun b o q => ?_, v, us, e, ⟨a, ws, ev, upd_same, al.mono hs, hz⟩, h2⟩
  by_cases hb : b = a
  · subst hb; rw [upd_same] at q; rw [ha]; exact q
  · rw [upd_ne hb] at q; exact s _ _ q⟩
/-- what holds of a value whatever the heap -/
class NoHp {α : Type} (r : Rl α) : Prop where
  nh : ∀ {F F' v x}, r F v x → r F' v x
instance : NoHp qS := ⟨fun h => h⟩
instance : NoHp rNat := ⟨fun h => h⟩
instance : NoHp rI := ⟨fun h => h⟩
instance : NoHp rB := ⟨fun h => h⟩
instance {α : Type} {r : Rl α} [NoHp r] : NoHp (rO r) := ⟨fun {F F' v x} h => by
  cases x with
  | none => exact h
  | some y => exact NoHp.nh (r := r) h⟩
section
variable {w : Xw} {σ : L2.St} {F H : Hp} {K : PySem.W.Frag} {α γ : Type}
theorem e_callT {τ : Type} {Rs Rs' : Hp → Hp → Hp → List V → τ → Prop} [Thaw Rs Rs'] {r : Rl γ} [NoHp r] {f : τ → M γ} {cl : Nat → Addr} {E' : XK} {ts : TA} {T : ∀ {γ' : Type}, (τ → M γ') → M γ'} (hw : ¬ w.on) (hs : EvA w ts σ Rs T F H) :
    EvC w (tCall (Pm False cl Rs' (fz r) f) [] E' ts σ) (fz r) (T f) F H := fun F0 H0 e0 => by
  refine hs F0 H0 e0 (fun vs H Q => Pm False cl Rs' (fz r) f (vs ++ []) H Q E') (fz r) f fun x vs F2 H2 e2 hr => ?_
  cases hf : f x with
  | bad => trivial
  | exc e => exact fun o => absurd o.1 hw
  | ok y =>
    obtain ⟨F3, s1, s2, hr3⟩ := Thaw.th (Rs' := Rs') e2.fh hr
    refine fun Q q => ⟨F3, x, s2, by rw [List.append_nil]; exact hr3, ?_⟩
    rw [hf]
    exact fun v F' H' e h => q v F2 H' ⟨e.hh, Same.refl _, s1.trans (e.ff.trans e.fh), fun _ _ z => z⟩ (NoHp.nh (r := r) h)
/-- an optional that is there -/
theorem e_unO {α : Type} {C : Hp → (V → Hp → Prop) → Prop} {r : Rl α} {m : M (Option α)} (h : EvC w C (fz (rO r)) m F H) : EvC w C (fz r) (m.bd fun x => M.of x) F H := fun F1 H1 e1 => by
  have h1 := h F1 H1 e1
  cases m with
  | bad => trivial
  | exc e => exact h1
  | ok x =>
    cases x with
    | none => trivial
    | some y => exact fun Q q => h1 Q fun v F2 H2 e2 hr => q v F2 H2 e2 hr
end
end SF
/-! ### x = d[xs.pop()][k] -/
namespace SF
open PySem PySem.Spec PyProof.Rows L2
def M.pop {α β : Type} (xs : List α) (f : α → List α → M β) : M β := match xs.getLast? with
  | some x => f x xs.dropLast
  | none => .bad
def M.popIx {κ α γ δ β : Type} [DecidableEq κ] (d : List (κ × (α × γ × δ))) (xs : List κ) (k : δ → List κ → M β) : M β := M.pop xs fun x ys => (M.of (aGet d x)).bd fun q => k q.2.2 ys
theorem Al.dropLast {α : Type} {r : Rl α} {F : Hp} : ∀ {vs : List V} {xs : List α}, Al r F vs xs → Al r F vs.dropLast xs.dropLast
  | _, _, .nil => .nil
  | _, _, .cons h .nil => .nil
  | _, _, .cons h (.cons h2 t) => .cons h (Al.dropLast (.cons h2 t))
theorem Al.last {α : Type} {r : Rl α} {F : Hp} {vs : List V} {xs : List α} {x : α} (h : Al r F vs xs) (hx : xs.getLast? = some x) : ∃ v, vs[vs.length - 1]? = some v ∧ r F v x := by
  rw [List.getLast?_eq_getElem?] at hx
  obtain ⟨v, hv, hr⟩ := h.get' hx
  exact ⟨v, by rw [h.len]; exact hv, hr⟩
section
variable {β α γ κ δ : Type} [DecidableEq κ] {c : Cxt β} {σ : L2.St} {F H : Hp} {K : PySem.W.Frag} {ta : TE} {u : L2.TS} {D : Ends} {a : Addr} {vs : List V} {xs : List κ}
theorem sq_popIx {i l : Nat} {rk : Rl κ} [Mono rk] {enc : κ → Key} [KR rk enc] {r : Rl α} {s : Rl γ} {t : Rl δ} {m : M (List (κ × (α × γ × δ)))} {k : δ → List κ → M β}
    (w : Own c.H0 F H a (.lst vs)) (al : Al rk F vs xs) (hz : xs.length ≤ sizeLine) (hσ : σ[l]? = some (some (.ref a))) (ev : EvC c.w (ta σ) (fz (qD enc (qT3 r s t))) m F H) (e0 : Xt c.F0 c.H0 F H)
    (h : Po c (m.bd fun d => M.popIx d xs k)) (σ' : V → L2.St) (hσ' : ∀ v, σ.set i (some v) = σ' v)
    (go : ∀ z v ys us F1 H1, Xt c.F0 c.H0 F1 H1 → Chg a (.lst us) F H F1 H1 → Own c.H0 F1 H1 a (.lst us) → Al rk F1 us ys → ys.length ≤ sizeLine → t F1 v z → Po c (k z ys) → u D (σ' v) H1) :
    tSeq (tAsg (tOp (rIxT K) (tDGet ta (tBM0 K "list" rPop (tVar l))) (tC (.int 2))) (gName i)) u D σ H := by
  refine EvC.run (C := ta σ) ev e0 h fun d v F1 H1 e1 hv hk => ?_
  replace hk : Po c (M.pop xs fun x ys => (M.of (aGet d x)).bd fun q => k q.2.2 ys) := hk
  cases hx : xs.getLast? with
  | none => unfold M.pop at hk; rw [hx] at hk; exact hk.elim
  | some x =>
    unfold M.pop at hk
    rw [hx] at hk
    replace hk : Po c ((M.of (aGet d x)).bd fun q => k q.2.2 xs.dropLast) := hk
    obtain ⟨y, hy, ry⟩ := (al.mono e1.ff).last hx
    have w1 := w.up e1
    obtain ⟨c1, c2⟩ := w.chg e0 e1 (o := .lst vs.dropLast)
    refine ⟨_, hσ, .inl ⟨rfl, _, SqL.of w1.at_⟩, a, vs, y, rfl, rfl, w1.at_, hy, ?_⟩
    cases hg : aGet d x with
    | none => rw [hg] at hk; exact hk.elim
    | some q =>
      rw [hg] at hk
      obtain ⟨ad, kvs, rfl, hd, had, hdl⟩ := hv
      obtain ⟨b, o, eb, _, hdg, hc⟩ := DG.dg (R := db enc (qT3 r s t)) (rk := rk) (r := qT3 r s t) (H0 := H1) c1.fh (show db enc (qT3 r s t) H1 F1 _ (.ref ad) d from ⟨ad, kvs, rfl, c1.fh _ _ hd, had, hdl⟩) ry
      rcases hc with ⟨q1, _⟩ | ⟨q', z, q1, rfl, hr⟩
      · rw [hg] at q1; cases q1
      · rw [hg] at q1
        cases q1
        obtain ⟨p, z1, z2, z3, rfl, hp, _, _, hz3⟩ := hr
        refine ⟨b, _, eb, hdg, p, [z1, z2, z3], 2, z3, rfl, rfl, ?_, rfl, ?_⟩
        · exact SqT.of (c1.fh _ _ hp)
        · show u D (σ.set i (some z3)) _
          rw [hσ']
          exact go _ _ _ _ F1 _ c1 c2 (w.set c2 trivial) (al.mono e1.ff).dropLast (by rw [List.length_dropLast]; omega) hz3 hk
end
end SF
/-! ### reasons; fresh lists; more statements -/
namespace SF
open PySem PySem.Spec PyProof.Rows L2
abbrev Rs1 : Type := List Nat × List (Nat × Nat × Nat)
abbrev Rz : Type := Option Rs1
def qZ : Rl Rs1 := fun F v x => ∃ a u ws, v = .ref a ∧ F a = some (.tup (u :: ws)) ∧ qS F u x.1 ∧ Al (qT3 rNat rNat rNat) F ws x.2
instance : Mono qZ := ⟨fun e h => by
  obtain ⟨a, u, ws, e1, h0, h1, h2⟩ := h
  exact ⟨a, u, ws, e1, e _ _ h0, Mono.mono (r := qS) e h1, h2.mono e⟩⟩
instance : NN qZ := ⟨fun _ _ _ ⟨a, u, ws, e, _⟩ => by rw [e]; simp⟩
section
variable {w : Xw} {σ : L2.St} {F H : Hp} {K : PySem.W.Frag} {α β γ δ : Type} {ta tb : TE}
theorem e_tupZ0 {ts : TA} {x : List Nat} {xs : List (Nat × Nat × Nat)} (hs : EvA w ts σ (rac (fz qS) (ral (qT3 rNat rNat rNat))) (fun f => f (x, xs)) F H) : EvC w (tTup ts σ) (fz qZ) (M.gd (xs.length ≤ 999) (.ok (x, xs))) F H := fun F0 H0 e0 => by
  refine hs F0 H0 e0 (fun vs H Q => vs.length ≤ sizeLine ∧ ∀ p, H p = none → Q (.ref p) (upd H p (.tup vs))) (fz qZ) (fun z => M.gd (z.2.length ≤ 999) (.ok z)) fun z vs F2 H2 e2 hr => ?_
  obtain ⟨v1, us, rfl, h1, h2⟩ := hr
  by_cases hz : z.2.length ≤ 999
  · rw [M.gd_pos hz]
    refine fun Q q => ⟨by rw [List.length_cons, Al.len h2, sl64]; omega, fun p hp => ?_⟩
    have e3 := (Xt.refl e2.fh).newF hp (o := .tup (v1 :: us))
    exact q _ _ _ e3 ⟨p, v1, us, rfl, upd_same, Mono.mono (r := qS) e3.ff h1, Al.mono e3.ff h2⟩
  · rw [M.gd_neg hz]; trivial
theorem e_tupZ {ts : TA} {x : List Nat} {xs : List (Nat × Nat × Nat)} (hs : EvA w ts σ (rac (fz qS) (ral (qT3 rNat rNat rNat))) (fun f => f (x, xs)) F H) (hl : xs.length ≤ 999) : EvC w (tTup ts σ) (fz qZ) (.ok (x, xs)) F H := by
  have h := e_tupZ0 hs
  rw [M.gd_pos hl] at h
  exact h
theorem e_z0 {m : M Rs1} (ha : EvC w (ta σ) (fz qZ) m F H) : EvC w (tOp (rIxT K) ta (tC (.int 0)) σ) (fz qS) (m.bd fun x => .ok x.1) F H := e_tupix ha fun F v x ⟨a, u, ws, e, h0, h1, h2⟩ => ⟨a, _, u, e, h0, by rw [show (0 : Int) = ((0 : Nat) : Int) from rfl, atI_nat']; rfl, h1⟩
theorem e_zk {k : Nat} {m : M Rs1} (ha : EvC w (ta σ) (fz qZ) m F H) : EvC w (tOp (rIxT K) ta (tC (.int ((k + 1 : Nat) : Int))) σ) (fz (qT3 rNat rNat rNat)) (m.bd fun x => M.of x.2[k]?) F H :=
  EvC.last (D := fun (v : V) H (Q : VK) => tC (.int ((k + 1 : Nat) : Int)) σ H fun y H2 => rIxT K v y H2 Q) (R' := fz (qT3 rNat rNat rNat)) ha (fun _ => of_or) fun x y v F1 H1 F2 H2 hz e1 e2 hr Q q => by
    obtain ⟨a, u, ws, rfl, h0, h1, h2⟩ := hr
    obtain ⟨z, hz1, hz2⟩ := h2.get' (of_ok hz)
    exact ⟨a, u :: ws, _, z, rfl, rfl, SqT.of (e2.fh _ _ h0), by rw [atI_nat', List.getElem?_cons_succ]; exact hz1, q _ _ _ (Xt.refl e2.fh) hz2⟩
theorem e_z1 {m : M Rs1} (ha : EvC w (ta σ) (fz qZ) m F H) : EvC w (tOp (rIxT K) ta (tC (.int 1)) σ) (fz (qT3 rNat rNat rNat)) (m.bd fun x => M.of x.2[0]?) F H := e_zk (k := 0) ha
theorem e_z2 {m : M Rs1} (ha : EvC w (ta σ) (fz qZ) m F H) : EvC w (tOp (rIxT K) ta (tC (.int 2)) σ) (fz (qT3 rNat rNat rNat)) (m.bd fun x => M.of x.2[1]?) F H := e_zk (k := 1) ha
theorem e_lenT2 {r : Rl α} {s : Rl β} [Mono r] [Mono s] {m : M (α × β)} (ha : EvC w (ta σ) (fz (rP r s)) m F H) : EvC w (tCB (rLen K) (tCons ta tNil) σ) (fz rNat) (m.bd fun _ => .ok 2) F H :=
  e_cb1 ha (fun _ => .inl ⟨_, rfl⟩) fun hz h1 s Q q => by
    cases hz
    obtain ⟨a, u, z, rfl, e, _⟩ := h1
    exact ⟨a, _, rfl, .inr (SqT.of (s _ _ e)), q _ _ _ (Xt.refl s) rfl⟩
theorem e_lenT3 {r : Rl α} {s : Rl β} {t : Rl γ} [Mono r] [Mono s] [Mono t] {m : M (α × β × γ)} (ha : EvC w (ta σ) (fz (qT3 r s t)) m F H) : EvC w (tCB (rLen K) (tCons ta tNil) σ) (fz rNat) (m.bd fun _ => .ok 3) F H :=
  e_cb1 ha (fun _ => .inl ⟨_, rfl⟩) fun hz h1 s Q q => by
    cases hz
    obtain ⟨a, u, z, y, rfl, e, _⟩ := h1
    exact ⟨a, _, rfl, .inr (SqT.of (s _ _ e)), q _ _ _ (Xt.refl s) rfl⟩
/-- more turns than any loop here takes -/
theorem bigEx (N : Nat) : ∃ n, ∀ k, k ≤ N → 1000 ^ k ≤ n := ⟨1000 ^ N, fun k h => Nat.pow_le_pow_right (by decide) h⟩
@[irreducible] noncomputable def bigF : Nat := Classical.choose (bigEx 1000000000)
theorem bigF_ge {k : Nat} (h : k ≤ 1000000000) : 1000 ^ k ≤ bigF := by
  unfold bigF
  exact Classical.choose_spec (bigEx 1000000000) k h
theorem al_csP {F : Hp} : ∀ {vs : List V} {xs : List (Nat × List Nat)}, Al (rP rC qS) F vs xs → Al (rP qS qS) F vs (xs.map fun p => ([p.1], p.2))
  | _, _, .nil => .nil
  | _, _, .cons h t => .cons (by
    obtain ⟨a, u, z, e, h0, h1, h2⟩ := h
    exact ⟨a, u, z, e, h0, ⟨h1, one_le⟩, h2⟩) (al_csP t)
theorem e_csP {C : Hp → (V → Hp → Prop) → Prop} {m : M (List (Nat × List Nat))} (h : EvC w C (fz (qL (rP rC qS))) m F H) : EvC w C (fz (qL (rP qS qS))) (m.bd fun x => .ok (x.map fun p => ([p.1], p.2))) F H := e_cv h fun F v x ⟨a, vs, e, h1, al, hz⟩ => ⟨a, vs, e, h1, al_csP al, by rw [List.length_map]; exact hz⟩
/-- a walk over a triple of numbers -/
theorem i_tup3 {m : M (Nat × Nat × Nat)} (ha : EvC w (ta σ) (fz (qT3 rNat rNat rNat)) m F H) : EvC w (iTup K ta σ) (iwF rNat) (m.bd fun x => .ok [x.1, x.2.1, x.2.2]) F H :=
  EvC.last (D := fun (v : V) H (R : It → Hp → Prop) => ∃ a, v = .ref a ∧ (∃ xs, SqT K H a xs) ∧ R (Itt K a) H) (R' := iwF rNat) ha (fun _ => .inl ⟨_, rfl⟩) fun x y v F1 H1 F2 H2 hz e1 e2 hr Q q => by
    cases hz
    obtain ⟨a, u1, u2, u3, rfl, e, h1, h2, h3⟩ := hr
    have al : Al rNat F2 [u1, u2, u3] [x.1, x.2.1, x.2.2] := .cons h1 (.cons h2 (.cons h3 .nil))
    refine ⟨a, rfl, ⟨_, SqT.of (e2.fh _ _ e)⟩, q _ _ _ (Xt.refl e2.fh) ⟨⟨fun H => SqT K H a [u1, u2, u3], YAt [u1, u2, u3], walk_tup (K := K) (a := a) (xs := [u1, u2, u3]), fun F' H' s1 s2 => SqT.of (s2 _ _ (s1 _ _ e)), fun i H' v H'' F' _ s1 s2 ⟨e1, e2⟩ => ?_⟩, by simp [sl64]⟩⟩
    subst e1
    obtain ⟨z, hz, hr⟩ := al.get e2
    exact ⟨F', z, hz, Xt.refl s2, Mono.mono (r := rNat) s1 hr⟩
/-! ### list(d), the keys of a dict -/
abbrev rListDT : List V → Hp → VK → Prop := fun xs H Q => ∃ d kvs, xs = [V.ref d] ∧ Rd H d (.dT kvs) ∧ ∀ p bs, H p = none → IsKeys H kvs bs → Q (.ref p) (upd H p (.lst (bs.map V.ref)))
theorem keys_al {r : Rl γ} {F0 F H : Hp} (s0 : Same F0 F) : ∀ {kvs : List (List Key × V)} {m : List ((Nat × Nat × Nat) × γ)} {bs : List Addr}, AD (encT3 encU encU encU) r F0 kvs m → IsKeys H kvs bs → Same F H → ∃ F2, Xt F H F2 H ∧ Al (qT3 rNat rNat rNat) F2 (bs.map V.ref) (m.map (·.1))
  | _, _, _, .nil, .nil, s => ⟨F, Xt.refl s, .nil⟩
  | _, _, _, .cons (a := kv) (b := x) h t, .cons (b := b) h2 t2, s => by
    obtain ⟨F2, e2, al⟩ := keys_al s0 t t2 s
    have hb : H b = some (.tup [V.int (x.1.1 : Nat), V.int (x.1.2.1 : Nat), V.int (x.1.2.2 : Nat)]) := by
      rw [h2, h.1]; rfl
    have e3 := e2.tup hb
    have s3 : Same F2 _ := ((Xt.refl e2.fh).tup hb).ff
    exact ⟨_, e3, .cons ⟨b, _, _, _, rfl, upd_same, rfl, rfl, rfl⟩ (al.mono s3)⟩
theorem e_listDT {r : Rl γ} [Mono r] {m : M (List ((Nat × Nat × Nat) × γ))} (ha : EvC w (ta σ) (dbT (encT3 encU encU encU) r) m F H) : EvC w (tCB rListDT (tCons ta tNil) σ) (nw (qT3 rNat rNat rNat)) (m.bd fun x => .ok (x.map (·.1))) F H :=
  e_cb1 ha (fun _ => .inl ⟨_, rfl⟩) fun {x y v F2 H2} hz h1 s Q q => by
    cases hz
    obtain ⟨a, kvs, rfl, e, ad, hz⟩ := h1
    refine ⟨a, kvs, rfl, .inl e, fun p bs hp hk => ?_⟩
    obtain ⟨F3, e3, al⟩ := keys_al (Same.refl _) ad hk s
    obtain ⟨x1, x2⟩ := nw_new (r := qT3 rNat rNat rNat) (H := H2) (F := F3) e3.fh hp al (by rw [List.length_map]; exact hz)
    exact q _ _ _ (e3.trans x1) x2
/-! ### a fresh list in a frozen datum -/
def qLn (H0 : Hp) (r : Rl α) : Rl (List α) := fun F v xs => ∃ a vs, v = .ref a ∧ H0 a = none ∧ F a = some (.lst vs) ∧ Al r F vs xs ∧ xs.length ≤ sizeLine
instance {H0 : Hp} {r : Rl α} [Mono r] : Mono (qLn H0 r) := ⟨fun e h => by
  obtain ⟨a, vs, e1, h0, h1, h2, h3⟩ := h
  exact ⟨a, vs, e1, h0, e _ _ h1, h2.mono e, h3⟩⟩
def fzN (R : Hp → Rl α) : R3 α := fun H0 F _ v x => R H0 F v x
class DnN (R : Hp → Rl α) : Prop where
  dnn : ∀ {H1 H2 F v x}, Same H1 H2 → R H2 F v x → R H1 F v x
instance {r : Rl α} : DnN (fun H0 => qLn H0 r) := ⟨fun s ⟨a, vs, e1, h0, h⟩ => ⟨a, vs, e1, s.free h0, h⟩⟩
instance {r : Rl α} {s : Rl β} {t : Rl γ} : DnN (fun H0 => qT3 r s (qLn H0 t)) := ⟨fun S ⟨a, u, v, z, e, h0, h1, h2, h3⟩ => ⟨a, u, v, z, e, h0, h1, h2, DnN.dnn (R := fun H0 => qLn H0 t) S h3⟩⟩
instance {R : Hp → Rl α} [DnN R] : Dn (fzN R) := ⟨fun s h => DnN.dnn (R := R) s h⟩
theorem e_toN {R : Hp → Rl α} [DnN R] {C : Hp → (V → Hp → Prop) → Prop} {m : M α} {H0 : Hp} (s : Same H0 H) (h : EvC w C (fzN R) m F H) : EvC w C (fz (R H0)) m F H := fun F1 H1 e1 => by
  have h1 := h F1 H1 e1
  cases m with
  | bad => trivial
  | exc e => exact h1
  | ok x => exact fun Q q => h1 Q fun v F2 H2 e2 hr => q v F2 H2 e2 (DnN.dnn (R := R) (s.trans e1.hh) hr)
/-- a new list is frozen, and known to be new -/
theorem e_frzN {C : Hp → (V → Hp → Prop) → Prop} {r : Rl α} [Mono r] {m : M (List α)} {H0 : Hp} (s : Same H0 H) (h : EvC w C (nw r) m F H) : EvC w C (fz (qLn H0 r)) m F H := by
  intro F1 H1 e1
  have h1 := h F1 H1 e1
  cases m with
  | bad => trivial
  | exc e => exact h1
  | ok x => exact fun Q q => h1 Q fun v F2 H2 e2 ⟨a, vs, e, h0, hf, hh, al, hz⟩ => q v _ H2 (e2.frz h0 hh hf) ⟨a, vs, e, (s.trans e1.hh).free h0, upd_same, al.mono (fun b u z => by rw [upd_ne (ne_of_none z hf)]; exact z), hz⟩
theorem e_unN {C : Hp → (V → Hp → Prop) → Prop} {r : Rl α} {m : M (List α)} {H0 : Hp} (h : EvC w C (fz (qLn H0 r)) m F H) : EvC w C (fz (qL r)) m F H := by
  intro F1 H1 e1
  have h1 := h F1 H1 e1
  cases m with
  | bad => trivial
  | exc e => exact h1
  | ok x => exact fun Q q => h1 Q fun v F2 H2 e2 ⟨a, vs, e, h0, hh, al, hz⟩ => q v _ H2 e2 ⟨a, vs, e, hh, al, hz⟩
end
section
variable {β α γ κ δ : Type} {c : Cxt β} {σ : L2.St} {F H : Hp} {K : PySem.W.Frag} {te ta : TE} {u : L2.TS} {D : Ends} {a : Addr} {vs : List V}
theorem sq_retN {R : Hp → Rl α} {Q : VK} {w0 : Xw} {F0 H0 : Hp} {m : M α} (ev : EvC w0 (te σ) (fz (R H0)) m F H) (e0 : Xt F0 H0 F H) (h : Po ⟨w0, Q, fzN R, F0, H0⟩ m) (hD : ∀ v H, Q v H → D.rt v H) : tSeq (tRet te) u D σ H := by
  have h1 := ev F H (Xt.refl e0.fh)
  cases m with
  | bad => exact h.elim
  | exc e => exact h1 (Out.up h e0) D.rt
  | ok x => exact h1 D.rt fun v F2 H2 e2 hr => hD v H2 (h v F2 H2 (e0.trans e2) hr)
/-- xs[2].append(y), where nothing on the heap is looked at any more -/
theorem sq_appDead {i : Nat} {r : Rl α} {s : Rl γ} {t : Rl δ} {v0 : V} {x : α × γ × List δ} {y : Nat} {k : M β} (sF : Same c.F0 c.H0) (hx : qT3 r s (qLn c.H0 t) F v0 x) (hσ : σ[i]? = some (some v0)) (ev : EvC c.w (te σ) (fz rNat) (.ok y) F H) (e0 : Xt c.F0 c.H0 F H)
    (h : Po c (M.gd (x.2.2.length < sizeLine) k)) (go : ∀ F1 H1, Xt c.F0 c.H0 F1 H1 → Po c k → u D σ H1) : tSeq (tDrop (tBM K "list" rAppend (tOp (rIxT K) (tVar i) (tC (.int 2))) (tCons te tNil))) u D σ H := by
  obtain ⟨a, u1, u2, u3, rfl, h0, h1, h2, p, vs, rfl, hp0, hp, al, hz⟩ := hx
  by_cases hl : x.2.2.length < sizeLine
  · rw [M.gd_pos hl] at h
    refine ⟨_, hσ, a, _, 2, .ref p, rfl, rfl, SqT.of (e0.fh _ _ h0), rfl, .inl ⟨rfl, _, SqL.of (e0.fh _ _ hp)⟩, ?_⟩
    refine ev F H (Xt.refl e0.fh) _ fun v F2 H2 e2 hv => ?_
    have hp2 := e2.fh _ _ (e2.ff _ _ hp)
    refine ⟨p, vs, v, rfl, rfl, hp2, by rw [al.len]; exact hl, ?_⟩
    have e02 := e0.trans e2
    refine go (fun b => if b = p then none else F2 b) _ ⟨fun b o q => ?_, fun b o q => ?_, fun b o q => ?_, fun b hb hf => ?_⟩ h
    · rw [upd_ne (ne_of_none q hp0)]; exact e02.hh b o q
    · have hbp : b ≠ p := ne_of_none (sF b o q) hp0
      show (if b = p then none else F2 b) = _
      rw [if_neg hbp]; exact e02.ff b o q
    · have q : (if b = p then none else F2 b) = some o := q
      split at q
      · cases q
      · rename_i hbp
        rw [upd_ne hbp]; exact e02.fh b o q
    · show (if b = p then none else F2 b) = none
      split
      · rfl
      · exact e02.nf b hb hf
  · rw [M.gd_neg hl] at h; exact h.elim
/-- a, b, c = xs.pop() -/
theorem sq_popUnp3 {i j k l : Nat} {r : Rl α} {s : Rl γ} {t : Rl δ} [Mono r] [Mono s] [Mono t] {xs : List (α × γ × δ)} {kk : α × γ × δ → List (α × γ × δ) → M β}
    (w : Own c.H0 F H a (.lst vs)) (al : Al (qT3 r s t) F vs xs) (hz : xs.length ≤ sizeLine) (hσ : σ[l]? = some (some (.ref a))) (e0 : Xt c.F0 c.H0 F H)
    (h : Po c (M.pop xs kk)) (σ' : V → V → V → L2.St) (hσ' : ∀ v w y, ((σ.set i (some v)).set j (some w)).set k (some y) = σ' v w y)
    (go : ∀ x ys v1 v2 v3 us F1 H1, Xt c.F0 c.H0 F1 H1 → Chg a (.lst us) F H F1 H1 → Own c.H0 F1 H1 a (.lst us) → Al (qT3 r s t) F1 us ys → ys.length ≤ sizeLine → r F1 v1 x.1 → s F1 v2 x.2.1 → t F1 v3 x.2.2 → Po c (kk x ys) → u D (σ' v1 v2 v3) H1) :
    tSeq (tAsg (tBM0 K "list" rPop (tVar l)) (gTup K 3 (gCons (gName i) (gCons (gName j) (gCons (gName k) gNil))))) u D σ H := by
  cases hx : xs.getLast? with
  | none => unfold M.pop at h; rw [hx] at h; exact h.elim
  | some x =>
    unfold M.pop at h
    rw [hx] at h
    obtain ⟨y, hy, ry⟩ := al.last hx
    obtain ⟨c1, c2⟩ := w.chg e0 (Xt.refl e0.fh) (o := .lst vs.dropLast)
    refine ⟨_, hσ, .inl ⟨rfl, _, SqL.of w.at_⟩, a, vs, y, rfl, rfl, w.at_, hy, ?_⟩
    obtain ⟨b, v1, v2, v3, rfl, hb, h1, h2, h3⟩ := ry
    refine ⟨b, _, rfl, SqT.of (c1.fh _ _ hb), rfl, _, _, rfl, _, _, rfl, _, _, rfl, rfl, ?_⟩
    show u D (((σ.set i (some v1)).set j (some v2)).set k (some v3)) _
    rw [hσ']
    exact go _ _ _ _ _ _ F _ c1 c2 (w.set c2 trivial) al.dropLast (by rw [List.length_dropLast]; omega) h1 h2 h3 h
/-- a, b, c, d = e -/
theorem sq_unp4 {ε : Type} {i j l n : Nat} {r : Rl α} {s : Rl γ} {t : Rl δ} {q : Rl ε} {m : M (α × γ × δ × ε)} {k : α × γ × δ × ε → M β} (ev : EvC c.w (te σ) (fz (qT4 r s t q)) m F H) (e0 : Xt c.F0 c.H0 F H) (h : Po c (m.bd k)) (σ' : V → V → V → V → L2.St)
    (hσ : ∀ v w y z, (((σ.set i (some v)).set j (some w)).set l (some y)).set n (some z) = σ' v w y z)
    (go : ∀ x y z x4 v v' v'' v4 F1 H1, Xt F H F1 H1 → Xt c.F0 c.H0 F1 H1 → r F1 v x → s F1 v' y → t F1 v'' z → q F1 v4 x4 → Po c (k (x, y, z, x4)) → u D (σ' v v' v'' v4) H1) : tSeq (tAsg te (gTup K 4 (gCons (gName i) (gCons (gName j) (gCons (gName l) (gCons (gName n) gNil)))))) u D σ H := by
  refine EvC.run (C := te σ) ev e0 h fun x v F1 H1 e1 ⟨a, v1, v2, v3, v4, ea, h0, h1, h2, h3, h4⟩ hk => ?_
  refine ⟨a, _, ea, SqT.of (e1.fh _ _ h0), rfl, _, _, rfl, _, _, rfl, _, _, rfl, _, _, rfl, rfl, ?_⟩
  show u D ((((σ.set i (some v1)).set j (some v2)).set l (some v3)).set n (some v4)) H1
  rw [hσ]
  exact go x.1 x.2.1 x.2.2.1 x.2.2.2 v1 v2 v3 v4 F1 H1 e1 (e0.trans e1) h1 h2 h3 h4 hk
end
/-! ### dict displays -/
section
variable {w : Xw} {σ : L2.St} {F H : Hp} {K : PySem.W.Frag} {α κ : Type} [DecidableEq κ]
def EvP (w : Xw) (trs : List (TE × TE)) (σ : L2.St) (enc : κ → Key) (rv : Rl α) (T : ∀ {γ : Type}, (List (κ × α) → M γ) → M γ) (F H : Hp) : Prop :=
  ∀ F0 H0, Xt F H F0 H0 → ∀ {ω γ : Type} (D : List (V × V) → Hp → (ω → Hp → Prop) → Prop) (R' : Hp → Hp → Hp → ω → γ → Prop) [Dn R'] (f : List (κ × α) → M γ),
    (∀ xs kvs F2 H2, Xt F0 H0 F2 H2 → AD enc rv F2 kvs xs → EvN w (D (kvs.map fun kv => (kV kv.1, kv.2))) R' (f xs) F2 H2) → EvN w (fun H Q => tPairs trs σ H fun ps H' => D ps H' Q) R' (T f) F0 H0
theorem p_nil {enc : κ → Key} {rv : Rl α} : EvP w [] σ enc rv (fun f => f []) F H := fun F0 H0 e0 ω γ D R' _ f k => k [] [] F0 H0 (Xt.refl e0.fh) .nil
theorem p_cons {enc : κ → Key} {rk : Rl κ} [Mono rk] [KR rk enc] {rv : Rl α} [Mono rv] {tk tv : TE} {trs : List (TE × TE)} {m : M κ} {n : M α} {T : ∀ {γ : Type}, (List (κ × α) → M γ) → M γ} (hk : EvC w (tk σ) (fz rk) m F H) (hv : EvC w (tv σ) (fz rv) n F H) (hs : EvP w trs σ enc rv T F H) :
    EvP w ((tk, tv) :: trs) σ enc rv (fun f => m.bd fun x => n.bd fun y => T fun xs => f ((x, y) :: xs)) F H := fun F0 H0 e0 ω γ D R' _ f k => by
  refine EvN.bind (D := fun v H Q => tv σ H fun y H1 => tPairs trs σ H1 fun vs H' => D ((v, y) :: vs) H' Q) (hk F0 H0 e0) fun x v F2 H2 e2 hr => ?_
  refine EvN.bind (D := fun y H Q => tPairs trs σ H fun vs H' => D ((v, y) :: vs) H' Q) (hv F2 H2 (e0.trans e2)) fun y u F3 H3 e3 hr3 => ?_
  refine hs F3 H3 ((e0.trans e2).trans e3) (fun vs => D ((v, u) :: vs)) R' _ fun xs kvs F4 H4 e4 ad => ?_
  have ev : v = kV (enc x) := KR.kr (r := rk) hr
  subst ev
  exact k ((x, y) :: xs) ((enc x, u) :: kvs) F4 H4 ((e2.trans e3).trans e4) (.cons ⟨rfl, Mono.mono (r := rv) e4.ff hr3⟩ ad)
def mkD (xs : List (κ × α)) : List (κ × α) := xs.foldl (fun d p => aPut d p.1 p.2) []
theorem ad_merge {enc : κ → Key} (inj : ∀ a b, enc a = enc b → a = b) {rv : Rl α} {F : Hp} : ∀ {kvs : List (Key × V)} {xs : List (κ × α)} {ds : List (Key × V)} {d : List (κ × α)}, AD enc rv F kvs xs → AD enc rv F ds d → AD enc rv F (mergeK ds kvs) (xs.foldl (fun d p => aPut d p.1 p.2) d) := by
  intro kvs xs ds d h
  unfold AD at h
  induction h generalizing ds d with
  | nil => exact fun h => h
  | @cons kv x l1 l2 h t ih =>
    intro h2
    refine ih ?_
    have h2 := AD.put (k := x.1) inj h.2 h2
    rw [← h.1] at h2
    exact h2
theorem e_disp {enc : κ → Key} {rk : Rl κ} [KR rk enc] {rv : Rl α} [Mono rv] {trs : List (TE × TE)} {T : ∀ {γ : Type}, (List (κ × α) → M γ) → M γ} (hs : EvP w trs σ enc rv T F H) : EvC w (tDisp trs σ) (dn enc rv) (T fun xs => M.gd (xs.length ≤ 15 ∧ (mkD xs).length ≤ 15) (.ok (mkD xs))) F H := fun F0 H0 e0 => by
  have key : ∀ p, H0 p = none → EvN w (fun H (Q : List (Key × V) → Hp → Prop) => tPairs trs σ H fun ps H2 => H2 p = some (.dK []) ∧ ∃ kvs : List (Key × V), ps = kvs.map (fun kv => (kV kv.1, kv.2)) ∧ kvs.length ≤ 15 ∧ Q kvs H2)
      (fun _ F _ kvs d => ∃ xs, AD enc rv F kvs xs ∧ d = mkD xs ∧ d.length ≤ 15) (T fun xs => M.gd (xs.length ≤ 15 ∧ (mkD xs).length ≤ 15) (.ok (mkD xs))) F0 (upd H0 p (.dK [])) := fun p hp => by
    refine @hs F0 (upd H0 p (.dK [])) (e0.trans ((Xt.refl e0.fh).newM hp)) (List (Key × V)) _ (fun ps H2 Q => H2 p = some (.dK []) ∧ ∃ kvs : List (Key × V), ps = kvs.map (fun kv => (kV kv.1, kv.2)) ∧ kvs.length ≤ 15 ∧ Q kvs H2) (fun _ F _ kvs d => ∃ xs, AD enc rv F kvs xs ∧ d = mkD xs ∧ d.length ≤ 15) ⟨fun _ h => h⟩ _ fun xs kvs F2 H2 e2 ad => ?_
    by_cases hg : xs.length ≤ 15 ∧ (mkD xs).length ≤ 15
    · rw [M.gd_pos hg]
      exact fun Q q => ⟨e2.hh _ _ upd_same, kvs, rfl, by rw [ad.len]; exact hg.1, q _ _ _ (Xt.refl e2.fh) ⟨xs, ad, rfl, hg.2⟩⟩
    · rw [M.gd_neg hg]; trivial
  cases hm : (T fun xs => M.gd (xs.length ≤ 15 ∧ (mkD xs).length ≤ 15) (.ok (mkD xs))) with
  | bad => trivial
  | exc e =>
    intro o Q p hp
    have h1 := key p hp
    rw [hm] at h1
    exact h1 (o.up ((Xt.refl e0.fh).newM hp)) fun kvs H2 => Q (.ref p) (upd H2 p (.dK (mergeK [] kvs)))
  | ok d =>
    intro Q q p hp
    have h1 := key p hp
    rw [hm] at h1
    refine h1 (fun kvs H2 => Q (.ref p) (upd H2 p (.dK (mergeK [] kvs)))) fun kvs F2 H2 e2 ⟨xs, ad, ed, hl⟩ => ?_
    have f2 : F2 p = none := e2.nf p (by rw [upd_same]; trivial) (e0.fh.free hp)
    have e3 := (((Xt.refl e0.fh).newM hp (o := .dK [])).trans e2).set hp f2 (o := .dK (mergeK [] kvs))
    refine q _ _ _ e3 ⟨p, _, rfl, hp, f2, upd_same, ?_, by rw [sl64]; omega⟩
    rw [ed]
    exact ad_merge (KR.inj (r := rk) (enc := enc)) ad .nil
end
end SF
/-! ### [e for a in xs if p for b in inner(a) if t] -/
namespace SF
open PySem PySem.Spec PyProof.Rows L2
section
variable {α β γ : Type}
def M.lc2 (p : α → M Bool) (inner : α → M (List β)) (t : α → β → M Bool) (k : α → β → M γ) : List α → M (List γ)
  | [] => .ok []
  | x :: r => (p x).nox.bd fun c => if c = true then (inner x).nox.bd fun ys => (M.lc (t x) (k x) ys).bd fun zs => (M.lc2 p inner t k r).bd fun rs => .ok (zs ++ rs) else M.lc2 p inner t k r
theorem lc_or {p : α → M Bool} {f : α → M β} : ∀ xs : List α, (∃ z, M.lc p f xs = .ok z) ∨ M.lc p f xs = .bad := fun xs => by
  cases h : M.lc p f xs with
  | ok y => exact .inl ⟨_, rfl⟩
  | bad => exact .inr rfl
  | exc e => exact absurd h (lc_not_exc xs e)
theorem lc2_or {p : α → M Bool} {inner : α → M (List β)} {t : α → β → M Bool} {k : α → β → M γ} : ∀ (xs : List α), (∃ z, M.lc2 p inner t k xs = .ok z) ∨ M.lc2 p inner t k xs = .bad
  | [] => .inl ⟨_, rfl⟩
  | x :: r => by
    unfold M.lc2
    cases p x with
    | bad => exact .inr rfl
    | exc e => exact .inr rfl
    | ok c =>
      cases c with
      | false => exact lc2_or r
      | true =>
        show (∃ z, ((inner x).nox.bd _) = _) ∨ ((inner x).nox.bd _) = _
        cases inner x with
        | bad => exact .inr rfl
        | exc e => exact .inr rfl
        | ok ys =>
          show (∃ z, (M.lc (t x) (k x) ys).bd _ = _) ∨ (M.lc (t x) (k x) ys).bd _ = _
          rcases lc_or (p := t x) (f := k x) ys with ⟨d', h⟩ | h
          · rw [h]
            show (∃ z, (M.lc2 p inner t k r).bd _ = _) ∨ (M.lc2 p inner t k r).bd _ = _
            rcases lc2_or (p := p) (inner := inner) (t := t) (k := k) r with ⟨d2, h2⟩ | h2
            · rw [h2]; exact .inl ⟨_, rfl⟩
            · rw [h2]; exact .inr rfl
          · rw [h]; exact .inr rfl
variable {w w' : Xw} {σ : L2.St} {F H : Hp}
theorem e_lc2 {wi wi1 : TI} {g g1 : TG} {te : TE} {tt tt1 : TT} {vs vs1 : List Nat} {r : Rl α} {r1 : Rl β} {rk : Rl γ} [Mono rk] {m : M (List α)} {p : α → M Bool} {inner : α → M (List β)} {t : α → β → M Bool} {k : α → β → M γ}
    (hi : EvC w (wi σ) (iw r) m F H) (Tg : Hp → α → L2.St → Prop) (hT : ∀ {F F' x σ2}, Same F F' → Tg F x σ2 → Tg F' x σ2)
    (hg : ∀ {x v F4 H4} (Q : L2.St → Hp → Prop), Same F4 H4 → r F4 v x → (∀ σ2, wipe σ2 vs = wipe σ vs → Tg F4 x σ2 → Q σ2 H4) → g v (wipe σ vs) H4 Q)
    (hp : ∀ x σ2 F4 H4, Xt F H F4 H4 → Tg F4 x σ2 → EvC w' (tt σ2) teq (p x) F4 H4)
    (hin : ∀ x σ2 F4 H4, Xt F H F4 H4 → Tg F4 x σ2 → EvC w' (wi1 σ2) (iwF r1) (inner x) F4 H4) (Tg1 : Hp → α → β → L2.St → Prop) (hT1 : ∀ {F F' x y σ3}, Same F F' → Tg1 F x y σ3 → Tg1 F' x y σ3)
    (hg1 : ∀ {x y σ2 v F4 H4} (Q : L2.St → Hp → Prop), Tg F4 x σ2 → Same F4 H4 → r1 F4 v y → (∀ σ3, wipe σ3 vs1 = wipe σ2 vs1 → Tg1 F4 x y σ3 → Q σ3 H4) → g1 v (wipe σ2 vs1) H4 Q)
    (ht : ∀ x y σ3 F4 H4, Xt F H F4 H4 → Tg1 F4 x y σ3 → EvC w' (tt1 σ3) teq (t x y) F4 H4) (hk : ∀ x y σ3 F4 H4, Xt F H F4 H4 → Tg1 F4 x y σ3 → EvC w' (te σ3) (fz rk) (k x y) F4 H4) :
    EvC w (tLc2 wi g tt wi1 g1 tt1 te vs vs1 σ) (nw rk) (m.bd fun xs => (M.lc2 p inner t k xs).bd fun zs => M.gd (zs.length ≤ sizeLine) (.ok zs)) F H := by
  refine EvC.bind (D := fun J H1 (Q : VK) => ∀ D, H1 D = none → ∃ W : Nat → Nat → Hp → Prop, (∃ m, W 0 m (upd H1 D (.lst []))) ∧ ∀ i m H, W i m H →
    (J.stop i H ∧ Q (.ref D) H) ∨ (J.go i H ∧ ∃ Nx : Hp → Prop, (∀ H', Nx H' → ∃ m', m' < m ∧ W (i + 1) m' H') ∧ ∀ x H', J.yld i H x H' → g x (wipe σ vs) H' fun σ2 H2 => wipe σ2 vs = wipe σ vs ∧ tt σ2 H2 fun b H3 =>
      if b = true then wi1 σ2 H3 fun J1 H4 => ∃ W1 : Nat → Nat → Hp → Prop, (∃ m, W1 0 m H4) ∧ ∀ j k H, W1 j k H →
        (J1.stop j H ∧ Nx H) ∨ (J1.go j H ∧ ∃ Nx1 : Hp → Prop, (∀ H', Nx1 H' → ∃ k', k' < k ∧ W1 (j + 1) k' H') ∧ ∀ x H', J1.yld j H x H' → g1 x (wipe σ2 vs1) H' fun σ3 H5 => wipe σ3 vs1 = wipe σ2 vs1 ∧ tt1 σ3 H5 fun b H6 =>
          if b = true then te σ3 H6 fun y H7 => ∃ acc, H7 D = some (.lst acc) ∧ acc.length < sizeLine ∧ Nx1 (upd H7 D (.lst (acc ++ [y]))) else Nx1 H6)
      else Nx H3)) (R' := nw rk) hi fun xs J F1 H1 F2 H2 e1 e2 hw => ?_
  obtain ⟨⟨G, Y, wk, hG, hY⟩, hz⟩ := hw
  have e12 := e1.trans e2
  cases hm : M.lc2 p inner t k xs with
  | bad => trivial
  | exc e => rcases lc2_or (p := p) (inner := inner) (t := t) (k := k) xs with ⟨z, h⟩ | h <;> rw [h] at hm <;> cases hm
  | ok zs =>
    by_cases hzs : zs.length ≤ sizeLine
    case neg =>
      show EvN w _ (nw rk) (M.gd (zs.length ≤ sizeLine) (.ok zs)) F2 H2
      rw [M.gd_neg hzs]; trivial
    show EvN w _ (nw rk) (M.gd (zs.length ≤ sizeLine) (.ok zs)) F2 H2
    rw [M.gd_pos hzs]
    intro Q q D hD
    refine ⟨fun i n H' => n = xs.length - i ∧ i ≤ xs.length ∧ ∃ F' ws ys, Xt F2 H2 F' H' ∧ F' D = none ∧ H' D = some (.lst ws) ∧ Al rk F' ws ys ∧ ∃ rs, M.lc2 p inner t k (xs.drop i) = .ok rs ∧ zs = ys ++ rs,
      ⟨xs.length, by simp, Nat.zero_le _, F2, [], [], (Xt.refl e2.fh).newM hD, e2.fh.free hD, upd_same, .nil, zs, hm, rfl⟩, ?_⟩
    rintro i n H4 ⟨rfl, hi, F4, ws, ys, e4, f4, hD4, al4, rs, hrs, ez⟩
    by_cases hlt : i < xs.length
    · refine .inr ⟨wk.goes i H4 hlt (hG F4 H4 e4), fun H' => ∃ F' ws ys, Xt F2 H2 F' H' ∧ F' D = none ∧ H' D = some (.lst ws) ∧ Al rk F' ws ys ∧ ∃ rs, M.lc2 p inner t k (xs.drop (i + 1)) = .ok rs ∧ zs = ys ++ rs,
        fun H' h => ⟨xs.length - (i + 1), by omega, rfl, hlt, h⟩, fun u H5 hy => ?_⟩
      obtain ⟨F5, x, hx, e5, hr⟩ := hY i H4 u H5 F4 hlt e4.ff e4.fh (wk.yields i H4 u H5 hlt (hG F4 H4 e4) hy)
      have f5 : F5 D = none := e5.nf D (by rw [hD4]; trivial) f4
      have hD5 := e5.hh _ _ hD4
      have hdrop : xs.drop i = x :: xs.drop (i + 1) := by
        rw [List.drop_eq_getElem_cons hlt]
        congr 1
        rw [List.getElem?_eq_getElem hlt] at hx
        exact Option.some.inj hx
      rw [hdrop] at hrs
      unfold M.lc2 at hrs
      refine hg _ e5.fh hr fun σ2 hw2 ht2 => ⟨hw2, ?_⟩
      have hp1 := hp x σ2 F5 H5 ((e12.trans e4).trans e5) ht2 F5 H5 (Xt.refl e5.fh)
      cases hpx : p x with
      | bad => rw [hpx] at hrs; cases hrs
      | exc e => rw [hpx] at hrs; cases hrs
      | ok c =>
      rw [hpx] at hrs hp1
      refine hp1 _ fun b0 F5' H5' e5' hb0 => ?_
      cases (show b0 = c from hb0)
      have f5' : F5' D = none := e5'.nf D (by rw [hD5]; trivial) f5
      have hD5' := e5'.hh _ _ hD5
      have hrs : (if c = true then (inner x).nox.bd fun ys => (M.lc (t x) (k x) ys).bd fun zs => (M.lc2 p inner t k (xs.drop (i + 1))).bd fun rs => .ok (zs ++ rs) else M.lc2 p inner t k (xs.drop (i + 1))) = .ok rs := hrs
      cases c with
      | false =>
        rw [if_neg Bool.false_ne_true] at hrs
        exact iteF ⟨F5', ws, ys, (e4.trans e5).trans e5', f5', hD5', al4.mono (e5.ff.trans e5'.ff), rs, hrs, ez⟩
      | true =>
      rw [if_pos rfl] at hrs
      refine iteT ?_
      have hin1 := hin x σ2 F5' H5' (((e12.trans e4).trans e5).trans e5') (hT e5'.ff ht2) F5' H5' (Xt.refl e5'.fh)
      cases hix : inner x with
      | bad => rw [hix] at hrs; cases hrs
      | exc e => rw [hix] at hrs; cases hrs
      | ok yl =>
        rw [hix] at hrs hin1
        refine hin1 _ fun J1 F6 H6 e6 hw1 => ?_
        obtain ⟨⟨G1, Y1, wk1, hG1, hY1⟩, hz1⟩ := hw1
        have hrs : ((M.lc (t x) (k x) yl).bd fun zs => (M.lc2 p inner t k (xs.drop (i + 1))).bd fun rs => .ok (zs ++ rs)) = .ok rs := hrs
        obtain ⟨rs1, h1, hrs⟩ := bd_inv hrs
        obtain ⟨rs2, h2, hrs⟩ := bd_inv hrs
        injection hrs with hrs
        have f6 : F6 D = none := e6.nf D (by rw [hD5']; trivial) f5'
        have hD6 := e6.hh _ _ hD5'
        have e46 := ((e4.trans e5).trans e5').trans e6
        have al6 := al4.mono ((e5.ff.trans e5'.ff).trans e6.ff)
        refine ⟨fun j n H' => n = yl.length - j ∧ j ≤ yl.length ∧ ∃ F' ws ys, Xt F2 H2 F' H' ∧ Same F6 F' ∧ F' D = none ∧ H' D = some (.lst ws) ∧ Al rk F' ws ys ∧ ∃ r1 r2, M.lc (t x) (k x) (yl.drop j) = .ok r1 ∧ M.lc2 p inner t k (xs.drop (i + 1)) = .ok r2 ∧ zs = ys ++ (r1 ++ r2),
          ⟨yl.length, by simp, Nat.zero_le _, F6, ws, ys, e46, Same.refl _, f6, hD6, al6, rs1, rs2, h1, h2, by rw [ez, ← hrs]⟩, ?_⟩
        rintro j n H7 ⟨rfl, hj, F7, ws7, ys7, e7, s67, f7, hD7, al7, r1', r2', g1', g2', ez7⟩
        by_cases hlt1 : j < yl.length
        · refine .inr ⟨wk1.goes j H7 hlt1 (hG1 F7 H7 s67 e7.fh), fun H' => ∃ F' ws ys, Xt F2 H2 F' H' ∧ Same F6 F' ∧ F' D = none ∧ H' D = some (.lst ws) ∧ Al rk F' ws ys ∧ ∃ r1 r2, M.lc (t x) (k x) (yl.drop (j + 1)) = .ok r1 ∧ M.lc2 p inner t k (xs.drop (i + 1)) = .ok r2 ∧ zs = ys ++ (r1 ++ r2),
            fun H' h => ⟨yl.length - (j + 1), by omega, rfl, hlt1, h⟩, fun u8 H8 hy8 => ?_⟩
          obtain ⟨F8, y, hx8, e8, hr8⟩ := hY1 j H7 u8 H8 F7 hlt1 s67 e7.fh (wk1.yields j H7 u8 H8 hlt1 (hG1 F7 H7 s67 e7.fh) hy8)
          have f8 : F8 D = none := e8.nf D (by rw [hD7]; trivial) f7
          have hD8 := e8.hh _ _ hD7
          have hdrop8 : yl.drop j = y :: yl.drop (j + 1) := by
            rw [List.drop_eq_getElem_cons hlt1]
            congr 1
            rw [List.getElem?_eq_getElem hlt1] at hx8
            exact Option.some.inj hx8
          rw [hdrop8, lc_step] at g1'
          have e78 := e7.trans e8
          refine hg1 _ (hT (((e5'.ff.trans e6.ff).trans s67).trans e8.ff) ht2) e8.fh hr8 fun σ3 hw3 ht3 => ⟨hw3, ?_⟩
          have ht1 := ht x y σ3 F8 H8 (e12.trans e78) ht3 F8 H8 (Xt.refl e8.fh)
          cases htx : t x y with
          | bad => rw [htx] at g1'; cases g1'
          | exc e => rw [htx] at g1'; cases g1'
          | ok b =>
            rw [htx] at g1' ht1
            refine ht1 _ fun b9 F9 H9 e9 hb9 => ?_
            cases (show b9 = b from hb9)
            have f9 : F9 D = none := e9.nf D (by rw [hD8]; trivial) f8
            have hD9 := e9.hh _ _ hD8
            have e89 := e8.trans e9
            have g1' : (if b = true then (k x y).nox.bd fun z => (M.lc (t x) (k x) (yl.drop (j + 1))).bd fun zs => .ok (z :: zs) else M.lc (t x) (k x) (yl.drop (j + 1))) = .ok r1' := g1'
            cases b with
            | false =>
              rw [if_neg Bool.false_ne_true] at g1'
              exact iteF ⟨F9, ws7, ys7, e7.trans e89, s67.trans e89.ff, f9, hD9, al7.mono e89.ff, r1', r2', g1', g2', ez7⟩
            | true =>
              rw [if_pos rfl] at g1'
              refine iteT ?_
              have hk1 := hk x y σ3 F9 H9 (e12.trans (e7.trans e89)) (hT1 e9.ff ht3) F9 H9 (Xt.refl e9.fh)
              cases hkx : k x y with
              | bad => rw [hkx] at g1'; cases g1'
              | exc e => rw [hkx] at g1'; cases g1'
              | ok key =>
                rw [hkx] at g1' hk1
                refine hk1 _ fun u10 F10 H10 e10 hu10 => ?_
                obtain ⟨rr, hr1, hr2⟩ := bd_inv (show ((M.lc (t x) (k x) (yl.drop (j + 1))).bd fun zs => .ok (key :: zs)) = .ok r1' from g1')
                injection hr2 with hr2
                have e810 := e89.trans e10
                have f10 : F10 D = none := e10.nf D (by rw [hD9]; trivial) f9
                have hD10 := e10.hh _ _ hD9
                have hlen : zs.length = ys7.length + (rr.length + 1 + r2'.length) := by rw [ez7, ← hr2, List.length_append, List.length_append, List.length_cons]
                refine ⟨ws7, hD10, by rw [al7.len]; omega, F10, ws7 ++ [u10], ys7 ++ [key], (e7.trans e810).set hD f10, s67.trans e810.ff, f10, upd_same, (al7.mono e810.ff).snoc hu10, rr, r2', hr1, g2', by rw [ez7, ← hr2]; simp⟩
        · have ej : j = yl.length := by omega
          subst ej
          rw [List.drop_length] at g1'
          injection g1' with g1'
          subst g1'
          exact .inl ⟨wk1.stops H7 (hG1 F7 H7 s67 e7.fh), F7, ws7, ys7, e7, f7, hD7, al7, r2', g2', ez7⟩
    · have ei : i = xs.length := by omega
      subst ei
      refine .inl ⟨wk.stops H4 (hG F4 H4 e4), ?_⟩
      rw [List.drop_length] at hrs
      injection hrs with hrs
      subst hrs
      rw [List.append_nil] at ez
      subst ez
      exact q _ _ _ e4 ⟨D, ws, rfl, hD, f4, hD4, al4, hzs⟩
end
end SF
/-! ### x in xs, both of tuples -/
namespace SF
open PySem PySem.Spec PyProof.Rows L2
theorem room65 {k : Nat} {A : Around} (r : Room k A) : A.units + 65 < cLine := by have := r.un; omega
theorem op_inDK {X : Cx} {K : PySem.W.Frag} (hu : X.A.units + 65 < cLine) (h : X.K = K := by rfl) : OpR X (compareOp .In) (rInD K) := by subst h; exact op_inD hu
theorem op_notInDK {X : Cx} {K : PySem.W.Frag} (hu : X.A.units + 65 < cLine) (h : X.K = K := by rfl) : OpR X (compareOp .NotIn) (rNotInD K) := by subst h; exact op_notInD hu
/-- data that may always be laid -/
class Lay {α : Type} [DecidableEq α] (r : Rl α) [Deep r] : Prop where
  ok : ∀ x, Deep.okd r x = true
  le : Deep.dmax r ≤ 63
section
variable {α β γ : Type} [DecidableEq α] [DecidableEq β] [DecidableEq γ]
instance : Lay rNat := ⟨fun _ => rfl, Nat.zero_le _⟩
instance lay33 : Lay (qT3 rNat rNat rNat) := ⟨fun _ => rfl, by decide⟩
instance lay22 : Lay (rP rNat rNat) := ⟨fun _ => rfl, by decide⟩
theorem any_eqv {r : Rl α} [Deep r] {x : α} : ∀ xs : List α, ((xs.map (Deep.pd r)).any fun z => PyData.eqv z (Deep.pd r x)) = @decide (x ∈ xs) (memI x xs)
  | [] => rfl
  | y :: xs => by
    rw [List.map_cons, List.any_cons, Deep.eqv, any_eqv xs, Bool.eq_iff_iff, Bool.or_eq_true, decide_eq_true_iff, decide_eq_true_iff, decide_eq_true_iff, List.mem_cons]
    exact or_congr ⟨fun h => h.symm, fun h => h.symm⟩ Iff.rfl
variable {w : Xw} {σ : L2.St} {F H : Hp} {K : PySem.W.Frag} {ta tb : TE}
theorem e_inD {r : Rl α} [Mono r] [Deep r] [Lay r] {m : M α} {n : M (List α)} (ha : EvC w (ta σ) (fz r) m F H) (hb : EvC w (tb σ) (lb r) n F H) : EvC w (tOp (rInD K) ta tb σ) (fz rB) (m.bd fun x => n.bd fun xs => .ok (@decide (x ∈ xs) (memI x xs))) F H :=
  e_op ha hb (fun _ _ => .inl ⟨_, rfl⟩) fun {x y z v u F2 H2} hz h1 h2 s Q q => by
    cases hz
    exact ⟨_, _, Deep.dp s h1, lb_dp s h2, deep_shaped (Lay.ok (r := r) x) (Nat.le_succ_of_le (Lay.le (r := r))), deep_shaped (r := qL r) (List.all_eq_true.mpr fun y _ => Lay.ok (r := r) y) (Nat.succ_le_succ (Lay.le (r := r))), q _ _ _ (Xt.refl s) (congrArg V.bl (any_eqv y))⟩
theorem e_ninD {r : Rl α} [Mono r] [Deep r] [Lay r] {m : M α} {n : M (List α)} (ha : EvC w (ta σ) (fz r) m F H) (hb : EvC w (tb σ) (lb r) n F H) : EvC w (tOp (rNotInD K) ta tb σ) (fz rB) (m.bd fun x => n.bd fun xs => .ok (!@decide (x ∈ xs) (memI x xs))) F H :=
  e_op ha hb (fun _ _ => .inl ⟨_, rfl⟩) fun {x y z v u F2 H2} hz h1 h2 s Q q => by
    cases hz
    exact ⟨_, _, Deep.dp s h1, lb_dp s h2, deep_shaped (Lay.ok (r := r) x) (Nat.le_succ_of_le (Lay.le (r := r))), deep_shaped (r := qL r) (List.all_eq_true.mpr fun y _ => Lay.ok (r := r) y) (Nat.succ_le_succ (Lay.le (r := r))), q _ _ _ (Xt.refl s) (congrArg (fun b => V.bl (!b)) (any_eqv y))⟩
end
end SF
/-! ### a walk over a list that the caller lent: it stands as long as what stood at the start stands -/
namespace SF
open PySem PySem.Spec PyProof.Rows L2
section
variable {β : Type} {c : Cxt β} {σ : L2.St} {F H : Hp} {K : PySem.W.Frag} {w : Xw} {α γ : Type} {te tl : TE} {u : L2.TS} {D : Ends}
structure WkB (J : It) (r : Rl α) (xs : List α) (F F0 H0 : Hp) : Prop where
  ex : ∃ (G : Hp → Prop) (Y : Nat → Hp → V → Hp → Prop), Walk J xs.length G Y ∧ (∀ F' H', Same F F' → Xt F0 H0 F' H' → G H') ∧
    ∀ i H' v H'' F', i < xs.length → Same F F' → Xt F0 H0 F' H' → Y i H' v H'' → ∃ F'' x, xs[i]? = some x ∧ Xt F' H' F'' H'' ∧ r F'' v x
  sz : xs.length ≤ sizeLine
def iwB (F0 H0 : Hp) (r : Rl α) : Hp → Hp → Hp → It → List α → Prop := fun _ F _ J xs => WkB J r xs F F0 H0
theorem i_bor {r : Rl α} [Mono r] {i : Nat} {v : V} {xs : List α} {F0 H0 H2 : Hp} (hb : lb r H2 F0 H0 v xs) (e0 : Xt F0 H0 F H) (h : σ[i]? = some (some v)) : EvC w (iList K (tVar i) σ) (iwB F0 H0 r) (.ok xs) F H := fun F1 H1 e Q q => by
  obtain ⟨a, vs, rfl, ha, al, hz⟩ := hb
  have e1 := e0.trans e
  refine ⟨_, h, a, rfl, ⟨vs, SqL.of (e1.hh _ _ ha)⟩, q _ F1 H1 (Xt.refl e.fh) ⟨⟨fun H => SqL K H a vs, YAt vs, by rw [← al.len]; exact walk_list (K := K) (a := a) (xs := vs), fun F' H' _ x => SqL.of (x.hh _ _ ha), fun i H' v H'' F' _ s1 s2 ⟨e1, e2⟩ => ?_⟩, hz⟩⟩
  subst e1
  obtain ⟨x, hx, hr⟩ := al.get e2
  exact ⟨F', x, hx, Xt.refl s2.fh, Mono.mono (r := r) s2.ff hr⟩
theorem sq_forB {S : Type} {wi : TI} {g : TG} {tb : L2.TS} {r : Rl α} {m : M (List α)} {body : S → α → (S → M β) → (S → M β) → M β} {aft : S → M β} {s0 : S} (ev : EvC c.w (wi σ) (iwB c.F0 c.H0 r) m F H) (e0 : Xt c.F0 c.H0 F H) (h : Po c (m.bd fun xs => M.fr body aft xs s0))
    (N : Hp → S → Hp → L2.St → Hp → Prop) (hN : ∀ F1 s F' σ' H', N F1 s F' σ' H' → Same F1 F' ∧ Xt c.F0 c.H0 F' H') (h0 : ∀ F1 H1, Xt F H F1 H1 → Xt c.F0 c.H0 F1 H1 → N F1 s0 F1 σ H1)
    (hb : ∀ (nx bk : L2.St → Hp → Prop) F1 s F2 σ2 H2 F3 H3 x v (next : S → M β), N F1 s F2 σ2 H2 → Xt F2 H2 F3 H3 → r F3 v x → (∀ s F' σ' H', N F1 s F' σ' H' → Po c (next s) → nx σ' H') → (∀ s F' σ' H', N F1 s F' σ' H' → Po c (aft s) → bk σ' H') → Po c (body s x next aft) →
      g v σ2 H3 fun σ4 H4 => tb { D with nx := nx, ct := nx, bk := bk } σ4 H4)
    (hd : ∀ F1 s F' σ' H', N F1 s F' σ' H' → Po c (aft s) → u D σ' H') : tSeq (tFor wi g tb) u D σ H := by
  refine EvC.run (C := wi σ) ev e0 h fun xs J F1 H1 e1 hw hk => ?_
  obtain ⟨⟨G, Y, wk, hG, hY⟩, hz⟩ := hw
  refine for_it (D := { D with nx := u D }) wk (fun i σ' H' => ∃ s F', N F1 s F' σ' H' ∧ Po c (M.fr body aft (xs.drop i) s)) ⟨s0, F1, h0 F1 H1 e1 (e0.trans e1), hk⟩ (fun i σ' H' _ ⟨s, F', hn, _⟩ => ?_) ?_ ?_
  · obtain ⟨s1, s2⟩ := hN _ _ _ _ _ hn
    exact hG F' H' s1 s2
  · rintro i v σ' H' H'' hi ⟨s, F', hn, hp⟩ hy
    obtain ⟨s1, s2⟩ := hN _ _ _ _ _ hn
    obtain ⟨F'', x, hx, e2, hr⟩ := hY i H' v H'' F' hi s1 s2 hy
    have hdrop : xs.drop i = x :: xs.drop (i + 1) := by
      rw [List.drop_eq_getElem_cons hi]
      congr 1
      rw [List.getElem?_eq_getElem hi] at hx
      exact Option.some.inj hx
    rw [hdrop, M.fr_cons] at hp
    exact hb (fun σ' H' => ∃ s F', N F1 s F' σ' H' ∧ Po c (M.fr body aft (xs.drop (i + 1)) s)) (u D) F1 s F' σ' H' F'' H'' x v _ hn e2 hr (fun s F' σ' H' hn hp => ⟨s, F', hn, hp⟩) (hd F1) hp
  · rintro σ' H' ⟨s, F', hn, hp⟩
    rw [List.drop_length] at hp
    exact hd F1 s F' σ' H' hn hp
end
end SF
/-! ### x in y, y an instance whose class has __contains__ -/
namespace SF
open PySem PySem.Spec PyProof.Rows L2
def rInOwn (C : Addr) (sp : Sp) (E : XK) (neg : Bool) : R2 := fun x y H Q => ∃ a dx fs, y = .ref a ∧ H a = some (.ins C dx fs) ∧ sp [.ref a, x] H (fun z H' => ∃ b, z = .bl b ∧ Q (.bl (neg ^^ b)) H') E
theorem truthy_bl {prog : Program} {w : World} {A : Around} {b : Bool} {Q : Bool → Shared → Prop} {E : Value → Shared → Prop} {s : Shared} (h : Q b s) : wpAny (model prog w) A (truthy (.bool b)) Q E s := by
  first
    | exact wpAny_pure h
    | (unfold truthy; exact wpAny_pure h)
    | exact wpAny_of_eq (a := b) rfl h
theorem op_inOwn {X : Cx} {CX : CXT} {k : Nat} {C f : Addr} {fd : FuncData} {ps : List Str} {sp : Sp} {E : XK} (hm : Meth X.K C "__contains__" f) (F : FnOk X.prog X.w X.K X.mg X.base CX k f fd ps sp) (hr : Room k X.A) (hb : Binds X.K fd ps []) (hx : Passes CX X E) :
    OpR X (compareOp .In) (rInOwn C sp E false) := by
  intro pins s σ H x y v u Q I rx ry h
  obtain ⟨a, dx, fs, rfl, ha, q⟩ := h
  cases (show u = Value.ref a from ry)
  obtain ⟨mA, O, _⟩ := ins_get I.hok ha
  obtain ⟨od, J, _⟩ := O.look
  obtain ⟨m, hF⟩ := I.fr
  refine PySem.W.in_K hF I.ok.mod.kin J hm.at_ hm.fn ?_
  refine wpAny_mono (run_fn (us := [.ref a, v]) (vs := [.ref a, x]) F hr hb .nil hx I (.cons rfl (.cons rx .nil)) q) (fun w' s' z => ?_) fun _ _ x => x
  obtain ⟨z', H', I', rz, b, eb, qz⟩ := z
  subst eb
  cases (show w' = Value.bool b from rz)
  exact truthy_bl ⟨.bl b, H', I', rfl, by simpa using qz⟩
theorem op_ninOwn {X : Cx} {CX : CXT} {k : Nat} {C f : Addr} {fd : FuncData} {ps : List Str} {sp : Sp} {E : XK} (hm : Meth X.K C "__contains__" f) (F : FnOk X.prog X.w X.K X.mg X.base CX k f fd ps sp) (hr : Room k X.A) (hb : Binds X.K fd ps []) (hx : Passes CX X E) :
    OpR X (compareOp .NotIn) (rInOwn C sp E true) := by
  intro pins s σ H x y v u Q I rx ry h
  obtain ⟨a, dx, fs, rfl, ha, q⟩ := h
  cases (show u = Value.ref a from ry)
  obtain ⟨mA, O, _⟩ := ins_get I.hok ha
  obtain ⟨od, J, _⟩ := O.look
  obtain ⟨m, hF⟩ := I.fr
  refine PySem.W.notIn_K hF I.ok.mod.kin J hm.at_ hm.fn ?_
  refine wpAny_mono (run_fn (us := [.ref a, v]) (vs := [.ref a, x]) F hr hb .nil hx I (.cons rfl (.cons rx .nil)) q) (fun w' s' z => ?_) fun _ _ x => x
  obtain ⟨z', H', I', rz, b, eb, qz⟩ := z
  subst eb
  cases (show w' = Value.bool b from rz)
  exact truthy_bl ⟨.bl (!b), H', I', rfl, by simpa using qz⟩
section
variable {w : Xw} {σ : L2.St} {F H : Hp} {ta tb : TE}
theorem e_inOwn {α β : Type} {r : Rl α} {R : Rl β} [Mono r] [Mono R] {C : Addr} {cl : Nat → Addr} {E' : XK} {f : β → α → M Bool} {m : M α} {n : M β} (hw : ¬ w.on) (hat : ∀ F v x, R F v x → ∃ a dx fs, v = .ref a ∧ F a = some (.ins C dx fs)) (ha : EvC w (ta σ) (fz r) m F H) (hb : EvC w (tb σ) (fz R) n F H) :
    EvC w (tOp (rInOwn C (Pm False cl (rac (fz R) (rac (fz r) ran)) (fz rB) (fun x => f x.1 x.2.1)) E' false) ta tb σ) (fz rB) (m.bd fun x => n.bd fun y => f y x) F H := by
  refine EvC.bind (D := fun (v : V) H (Q : VK) => tb σ H fun u H2 => rInOwn C (Pm False cl (rac (fz R) (rac (fz r) ran)) (fz rB) (fun x => f x.1 x.2.1)) E' false v u H2 Q) (R' := fz rB) ha fun x v F1 H1 F2 H2 e1 e2 hr => ?_
  refine EvN.bind (D := fun (u : V) H (Q : VK) => rInOwn C (Pm False cl (rac (fz R) (rac (fz r) ran)) (fz rB) (fun x => f x.1 x.2.1)) E' false v u H Q) (R' := fz rB) (hb F2 H2 (e1.trans e2)) fun y u F3 H3 e3 hs => ?_
  cases hf : f y x with
  | bad => trivial
  | exc e => exact fun o => absurd o.1 hw
  | ok b =>
    intro Q q
    obtain ⟨a, dx, fs, rfl, h1⟩ := hat _ _ _ hs
    refine ⟨a, dx, fs, rfl, e3.fh _ _ h1, F3, (y, x, ()), e3.fh, ⟨_, _, rfl, hs, _, _, rfl, Mono.mono (r := r) e3.ff hr, rfl⟩, ?_⟩
    show Po _ (f y x)
    rw [hf]
    exact fun v' F' H' e h => ⟨b, h, by rw [Bool.false_xor]; exact q _ _ _ e rfl⟩
theorem e_ninOwn {α β : Type} {r : Rl α} {R : Rl β} [Mono r] [Mono R] {C : Addr} {cl : Nat → Addr} {E' : XK} {f : β → α → M Bool} {m : M α} {n : M β} (hw : ¬ w.on) (hat : ∀ F v x, R F v x → ∃ a dx fs, v = .ref a ∧ F a = some (.ins C dx fs)) (ha : EvC w (ta σ) (fz r) m F H) (hb : EvC w (tb σ) (fz R) n F H) :
    EvC w (tOp (rInOwn C (Pm False cl (rac (fz R) (rac (fz r) ran)) (fz rB) (fun x => f x.1 x.2.1)) E' true) ta tb σ) (fz rB) (m.bd fun x => n.bd fun y => (f y x).bd fun b => .ok (!b)) F H := by
  refine EvC.bind (D := fun (v : V) H (Q : VK) => tb σ H fun u H2 => rInOwn C (Pm False cl (rac (fz R) (rac (fz r) ran)) (fz rB) (fun x => f x.1 x.2.1)) E' true v u H2 Q) (R' := fz rB) ha fun x v F1 H1 F2 H2 e1 e2 hr => ?_
  refine EvN.bind (D := fun (u : V) H (Q : VK) => rInOwn C (Pm False cl (rac (fz R) (rac (fz r) ran)) (fz rB) (fun x => f x.1 x.2.1)) E' true v u H Q) (R' := fz rB) (hb F2 H2 (e1.trans e2)) fun y u F3 H3 e3 hs => ?_
  cases hf : f y x with
  | bad => trivial
  | exc e => exact fun o => absurd o.1 hw
  | ok b =>
    intro Q q
    obtain ⟨a, dx, fs, rfl, h1⟩ := hat _ _ _ hs
    refine ⟨a, dx, fs, rfl, e3.fh _ _ h1, F3, (y, x, ()), e3.fh, ⟨_, _, rfl, hs, _, _, rfl, Mono.mono (r := r) e3.ff hr, rfl⟩, ?_⟩
    show Po _ (f y x)
    rw [hf]
    exact fun v' F' H' e h => ⟨b, h, by rw [Bool.true_xor]; exact q _ _ _ e rfl⟩
end
end SF
/-! ### instances with slots, frozen: spans -/
namespace SF
open PySem PySem.Spec PyProof.Rows L2
abbrev SpD : Type := Nat × Nat
def rSp (C : Addr) : Rl SpD := fun F v x => ∃ a dx, v = .ref a ∧ F a = some (SlX.SlO a C dx [some (.int (x.2 : Int)), some (.int (x.1 : Int))]) ∧ F dx = some (.xd [])
instance {C : Addr} : Mono (rSp C) := ⟨fun s ⟨a, dx, e, h1, h2⟩ => ⟨a, dx, e, s _ _ h1, s _ _ h2⟩⟩
theorem sp_start {C : Addr} (F : Hp) (v : V) (x : SpD) (h : rSp C F v x) : ∃ a dx vs u, v = .ref a ∧ F a = some (SlX.SlO a C dx vs) ∧ F dx = some (.xd []) ∧ vs[1]? = some (some u) ∧ rNat F u x.1 := by
  obtain ⟨a, dx, e, h1, h2⟩ := h
  exact ⟨a, dx, _, _, e, h1, h2, rfl, rfl⟩
theorem sp_end {C : Addr} (F : Hp) (v : V) (x : SpD) (h : rSp C F v x) : ∃ a dx vs u, v = .ref a ∧ F a = some (SlX.SlO a C dx vs) ∧ F dx = some (.xd []) ∧ vs[0]? = some (some u) ∧ rNat F u x.2 := by
  obtain ⟨a, dx, e, h1, h2⟩ := h
  exact ⟨a, dx, _, _, e, h1, h2, rfl, rfl⟩
def m_Span (s e : Int) : M SpD := M.gd (0 ≤ s ∧ s < e) (.ok (s.toNat, e.toNat))
def sp_Span (C : Addr) : Sp := fun vs H Q _ => ∃ (F H2 : Hp) (p dx : Addr) (s e : Int), vs = [.ref p, .int s, .int e] ∧ H2 p = none ∧ H2 dx = none ∧ dx ≠ p ∧ H = upd (upd H2 dx (.own p)) p (.ins C dx []) ∧ Same F H2 ∧ 0 ≤ s ∧ s < e ∧
  ∀ F' H', Xt F H2 F' H' → rSp C F' (.ref p) (s.toNat, e.toNat) → Q .non H'
theorem slH_new {H : Hp} {p dx C : Addr} {vs : List (Option V)} : SlX.slH (upd (upd H dx (.own p)) p (.ins C dx [])) p C dx vs = upd (upd H dx (.xd [])) p (SlX.SlO p C dx vs) := by
  funext b
  unfold SlX.slH
  by_cases h1 : b = p
  · rw [h1, upd_same, upd_same]
  · by_cases h2 : b = dx
    · subst h2
      rw [upd_ne h1, upd_same, upd_ne h1, upd_same]
    · simp only [upd_ne h1, upd_ne h2]
theorem pe_slK {X : L2.Cx} {K : PySem.W.Frag} {e : Expr} {ta : TE} {f : Str} {pos : Pos} (he : PE X e ta) (hb : attributeBase e f X.env (eval e X.env) = eval e X.env := by rfl) (h : X.K = K := by rfl) : PE X (.Attribute e f pos) (SlX.tSl K ta f) := by subst h; exact SlX.pe_sl he hb
theorem isiSlK {X : L2.Cx} {K : PySem.W.Frag} (u : Value) (h : X.K = K := by rfl) : CallR X (.builtin "isinstance") (SlX.rIsiSl K u) := by subst h; exact SlX.call_isiSl u
section
variable {w : Xw} {σ : L2.St} {F H : Hp} {K : PySem.W.Frag} {α β : Type} {ta tb : TE}
theorem e_sl {R : Rl α} {r : Rl β} {C : Addr} {f : Str} {i : Nat} {g : α → β} {m : M α} (ha : EvC w (ta σ) (fz R) m F H) (hc : SlX.SCls K C) (hn : ∃ p, SlX.Slot1 K C f p i)
    (hk : ∀ F v x, R F v x → ∃ a dx vs u, v = .ref a ∧ F a = some (SlX.SlO a C dx vs) ∧ F dx = some (.xd []) ∧ vs[i]? = some (some u) ∧ r F u (g x)) : EvC w (SlX.tSl K ta f σ) (fz r) (m.bd fun x => .ok (g x)) F H :=
  EvC.last (D := fun (v : V) H (Q : VK) => ∃ a C dx p vs i u, v = .ref a ∧ SlX.Slt H a C dx vs ∧ SlX.SCls K C ∧ SlX.Slot1 K C f p i ∧ vs[i]? = some (some u) ∧ Q u H) (R' := fz r) ha (fun _ => .inl ⟨_, rfl⟩) fun x y v F1 H1 F2 H2 hz e1 e2 hr Q q => by
    cases hz
    obtain ⟨a, dx, vs, u, rfl, h1, h2, h3, h4⟩ := hk _ _ _ hr
    obtain ⟨p, hp⟩ := hn
    exact ⟨a, C, dx, p, vs, i, u, rfl, .inr ⟨e2.fh _ _ h1, e2.fh _ _ h2⟩, hc, hp, h3, q _ _ _ (Xt.refl e2.fh) h4⟩
theorem e_mkSp {C : Addr} {E' : XK} {m n : M Int} (ha : EvC w (ta σ) (fz rI) m F H) (hb : EvC w (tb σ) (fz rI) n F H) : EvC w (tMake C (sp_Span C) [] E' (tCons ta (tCons tb tNil)) σ) (fz (rSp C)) (m.bd fun x => n.bd fun y => m_Span x y) F H := by
  refine EvC.bind (D := fun (v : V) H (Q : VK) => tb σ H fun u H1 => ∀ x dx, H1 x = none → H1 dx = none → dx ≠ x → sp_Span C (.ref x :: ([v, u] ++ [])) (upd (upd H1 dx (.own x)) x (.ins C dx [])) (fun v H2 => v = .non ∧ Q (.ref x) H2) E') (R' := fz (rSp C)) ha fun x v F1 H1 F2 H2 e1 e2 hr => ?_
  refine EvN.bind (D := fun (u : V) H1 (Q : VK) => ∀ x dx, H1 x = none → H1 dx = none → dx ≠ x → sp_Span C (.ref x :: ([v, u] ++ [])) (upd (upd H1 dx (.own x)) x (.ins C dx [])) (fun v H2 => v = .non ∧ Q (.ref x) H2) E') (R' := fz (rSp C)) (hb F2 H2 (e1.trans e2)) fun y u F3 H3 e3 hs => ?_
  unfold m_Span M.gd
  split
  · rename_i hg
    intro Q q p dx hp hdx hne
    exact ⟨F3, H3, p, dx, x, y, by rw [show v = _ from hr, show u = _ from hs]; rfl, hp, hdx, hne, rfl, e3.fh, hg.1, hg.2, fun F' H' e h => ⟨rfl, q _ _ _ e h⟩⟩
  · trivial
end
/-! faults -/
structure FtD where
  index : Nat
  span : SpD
  window : SpD
  expected : List Nat
def rFt (C S : Addr) : Rl FtD := fun F v x => ∃ p dx u1 u2 u3 u4, v = .ref p ∧ F p = some (.ins C dx [("index", u1), ("span", u2), ("window", u3), ("expected", u4)]) ∧ rNat F u1 x.index ∧ rSp S F u2 x.span ∧ rSp S F u3 x.window ∧ qS F u4 x.expected
instance {C S : Addr} : Mono (rFt C S) := ⟨fun s ⟨p, dx, u1, u2, u3, u4, e, h0, h1, h2, h3, h4⟩ => ⟨p, dx, u1, u2, u3, u4, e, s _ _ h0, Mono.mono s h1, Mono.mono s h2, Mono.mono s h3, Mono.mono s h4⟩⟩
section
variable {C S : Addr}
theorem ft_index (F : Hp) (v : V) (x : FtD) (h : rFt C S F v x) : ∃ a dx fs u, v = .ref a ∧ F a = some (.ins C dx fs) ∧ List.lookup ("index" : Str) fs = some u ∧ rNat F u x.index := by
  obtain ⟨p, dx, u1, u2, u3, u4, e, h0, h1, h2, h3, h4⟩ := h
  exact ⟨p, dx, _, _, e, h0, look_eq, h1⟩
theorem ft_span (F : Hp) (v : V) (x : FtD) (h : rFt C S F v x) : ∃ a dx fs u, v = .ref a ∧ F a = some (.ins C dx fs) ∧ List.lookup ("span" : Str) fs = some u ∧ rSp S F u x.span := by
  obtain ⟨p, dx, u1, u2, u3, u4, e, h0, h1, h2, h3, h4⟩ := h
  exact ⟨p, dx, _, _, e, h0, by rw [look_ne (by decide), look_eq], h2⟩
theorem ft_window (F : Hp) (v : V) (x : FtD) (h : rFt C S F v x) : ∃ a dx fs u, v = .ref a ∧ F a = some (.ins C dx fs) ∧ List.lookup ("window" : Str) fs = some u ∧ rSp S F u x.window := by
  obtain ⟨p, dx, u1, u2, u3, u4, e, h0, h1, h2, h3, h4⟩ := h
  exact ⟨p, dx, _, _, e, h0, by rw [look_ne (by decide), look_ne (by decide), look_eq], h3⟩
theorem ft_expected (F : Hp) (v : V) (x : FtD) (h : rFt C S F v x) : ∃ a dx fs u, v = .ref a ∧ F a = some (.ins C dx fs) ∧ List.lookup ("expected" : Str) fs = some u ∧ qS F u x.expected := by
  obtain ⟨p, dx, u1, u2, u3, u4, e, h0, h1, h2, h3, h4⟩ := h
  exact ⟨p, dx, _, _, e, h0, by rw [look_ne (by decide), look_ne (by decide), look_ne (by decide), look_eq], h4⟩
end
def m_Fault (i : Nat) (s w : SpD) (x : List Nat) : M FtD := .ok ⟨i, s, w, x⟩
end SF
/-! ### a < b < c < d; x is None of a list; isinstance of a span -/
namespace SF
open PySem PySem.Spec PyProof.Rows L2
def tChain3 (r r' r'' : R2) (ta tb tc td : TE) : TE := fun σ H Q => ta σ H fun x H1 => tb σ H1 fun y H2 => r x y H2 fun z H3 => ∃ k, z = .bl k ∧
  (if k = true then tc σ H3 fun w' H4 => r' y w' H4 fun z' H5 => ∃ k', z' = .bl k' ∧ (if k' = true then td σ H5 fun u H6 => r'' w' u H6 Q else Q (.bl false) H5) else Q (.bl false) H3)
theorem pt_chain3 {X : L2.Cx} {a b c d : Expr} {pos : Pos} {ta tb tc td : TE} {op op' op'' : CmpOp} {r r' r'' : R2} (ho : OpR X (compareOp op) r) (ho' : OpR X (compareOp op') r') (ho'' : OpR X (compareOp op'') r'') (ha : PE X a ta) (hb : PE X b tb) (hc : PE X c tc) (hd : PE X d td)
    (hm : lastMarks [op, op', op''] [b, c, d] = false := by with_unfolding_all rfl) : PT X (.Compare a [op, op', op''] [b, c, d] pos) (tTest (tChain3 r r' r'' ta tb tc td)) := by
  refine ⟨fun pins s σ H Q I h => ?_⟩
  refine isTrue_chain (thn (ha.run pins s σ H _ I h) fun v s1 ⟨x, H1, I1, r1, q1⟩ => test_link (thn (hb.run pins s1 σ H1 _ I1 q1) fun u s2 ⟨y, H2, I2, r2, q2⟩ =>
    thn (ho pins s2 σ H2 x y v u _ I2 r1 r2 q2) fun d s3 ⟨z, H3, I3, r3, k, e, q3⟩ => ?_)) hm
  subst e
  cases r3
  refine wpAny_truthy_bool ?_
  cases k with
  | false =>
    obtain ⟨k', e', q'⟩ := q3
    cases e'
    exact ite_ff ⟨H3, I3, q'⟩
  | true =>
    refine ite_tt (test_link (thn (hc.run pins s3 σ H3 _ I3 q3) fun w' s4 ⟨z', H4, I4, r4, q4⟩ => thn (ho' pins s4 σ H4 y z' u w' _ I4 r2 r4 q4) fun d' s5 ⟨z2, H5, I5, r5, k2, e2, q5⟩ => ?_))
    subst e2
    cases r5
    refine wpAny_truthy_bool ?_
    cases k2 with
    | false =>
      obtain ⟨k', e', q'⟩ := q5
      cases e'
      exact ite_ff ⟨H5, I5, q'⟩
    | true =>
      refine ite_tt (test_last (thn (hd.run pins s5 σ H5 _ I5 q5) fun w2 s6 ⟨z3, H6, I6, r6, q6⟩ => thn (ho'' pins s6 σ H6 z' z3 w' w2 _ I6 r4 r6 q6) fun d2 s7 ⟨z4, H7, I7, r7, k3, e3, q7⟩ => ?_))
      subst e3
      cases r7
      exact wpAny_truthy_bool ⟨H7, I7, q7⟩
section
variable {w : Xw} {σ : L2.St} {F H : Hp} {K : PySem.W.Frag} {α β γ δ : Type} {ta tb tc td : TE}
theorem e_chain3P {r r' r'' : R2} {r1 : Rl α} {r2 : Rl β} {r3 : Rl γ} {r4 : Rl δ} [Mono r1] [Mono r2] [Mono r3] {f : α → β → Bool} {g : β → γ → Bool} {l : γ → δ → Bool} {x : α} {y : β} {z : γ} {u : δ} (ha : EvC w (ta σ) (fz r1) (.ok x) F H) (hb : EvC w (tb σ) (fz r2) (.ok y) F H) (hc : EvC w (tc σ) (fz r3) (.ok z) F H) (hd : EvC w (td σ) (fz r4) (.ok u) F H)
    (h1 : O2 r1 r2 r f) (h2 : O2 r2 r3 r' g) (h3 : O2 r3 r4 r'' l) : EvC w (tChain3 r r' r'' ta tb tc td σ) (fz rB) (.ok (f x y && (g y z && l z u))) F H := by
  intro F0 H0 e0 Q q
  refine ha F0 H0 e0 _ fun v F2 H2 e2 hv => ?_
  refine hb F2 H2 (e0.trans e2) _ fun v2 F3 H3 e3 hv2 => ?_
  refine h1 (F := F3) (Mono.mono (r := r1) e3.ff hv) hv2 ⟨f x y, rfl, ?_⟩
  cases hf : f x y with
  | false =>
    rw [if_neg (by decide)]
    exact q _ _ _ (e2.trans e3) (by rw [hf]; rfl)
  | true =>
    rw [if_pos rfl]
    refine hc F3 H3 ((e0.trans e2).trans e3) _ fun v3 F4 H4 e4 hv3 => ?_
    refine h2 (F := F4) (Mono.mono (r := r2) e4.ff hv2) hv3 ⟨g y z, rfl, ?_⟩
    cases hg : g y z with
    | false =>
      rw [if_neg (by decide)]
      exact q _ _ _ ((e2.trans e3).trans e4) (by rw [hf, hg]; rfl)
    | true =>
      rw [if_pos rfl]
      refine hd F4 H4 (((e0.trans e2).trans e3).trans e4) _ fun v4 F5 H5 e5 hv4 => ?_
      refine h3 (F := F5) (Mono.mono (r := r3) e5.ff hv3) hv4 ?_
      exact q _ _ _ (((e2.trans e3).trans e4).trans e5) (by rw [hf, hg]; rfl)
theorem e_isRef {r : Rl α} [Mono r] {m : M (List α)} (ha : EvC w (ta σ) (lb r) m F H) : EvC w (tOp (fun x y H Q => y = V.non ∧ Q (.bl (decide (x = V.non))) H) ta (tC .non) σ) (fz rB) (m.bd fun _ => .ok false) F H :=
  EvC.last (D := fun (v : V) H (Q : VK) => V.non = V.non ∧ Q (.bl (decide (v = V.non))) H) (R' := fz rB) ha (fun _ => .inl ⟨_, rfl⟩) fun x y v F1 H1 F2 H2 hz e1 e2 hr Q q => by
    cases hz
    obtain ⟨a, vs, rfl, _⟩ := hr
    refine ⟨rfl, ?_⟩
    rw [decide_eq_false (fun e => by cases e)]
    exact q _ _ _ (Xt.refl e2.fh) rfl
theorem e_isiSp {C : Addr} {m : M SpD} (hc : SlX.SCls K C) (hi : SlX.SIsi K C) (ha : EvC w (ta σ) (fz (rSp C)) m F H) : EvC w (tCB (SlX.rIsiSl K (.ref C)) (tCons ta (tCons (tC (.ref C)) tNil)) σ) (fz rB) (m.bd fun _ => .ok true) F H :=
  EvC.last (D := fun (v : V) H (Q : VK) => SlX.rIsiSl K (.ref C) [v, .ref C] H Q) (R' := fz rB) ha (fun _ => .inl ⟨_, rfl⟩) fun x y v F1 H1 F2 H2 hz e1 e2 hr Q q => by
    cases hz
    obtain ⟨a, dx, rfl, h1, h2⟩ := hr
    refine ⟨a, C, dx, _, .ref C, true, rfl, rfl, fun w hw => hw, .inr ⟨e2.fh _ _ h1, e2.fh _ _ h2⟩, hc, hi, ?_, q _ _ _ (Xt.refl e2.fh) rfl⟩
    unfold PySem.W.kitOne
    rw [if_pos (beq_self_eq_true _)]
end
end SF
/-! ### own errors whose __init__ says super().__init__(text) -/
namespace SF
open PySem PySem.Spec PyProof.Rows L2 NdefX
section
open PySem.W PySem.Calls
variable {prog : Program} {w : World} {A : Around} {E : Value → Shared → Prop} {h : Heap} {g : Array GenState} {d : PySem.Drawn} {t : Nat} {os : OsState}
variable {nm q : Str} {C N : Addr} {bs bm : List Value} {hdct : Bool} {sn : List Str} {sub : List Value} {ab : Bool} {col : Option Bool} {dd : Option Addr} {k0 k1 k2 k3 k5 : Option Value}
theorem call_mw {u e t0 : Addr} {rest : List Value} {Q : Value → Shared → Prop}
    (hC : h.get? C = some (excClassObj nm q C N bs bm hdct sn sub ab col dd k0 k1 k2 k3 k5 "ValueError.__new__")) (he : h.get? e = some (HandSPX.excO C t0)) (hu : h.get? u = some (kxs_mw "ValueError.__init__" e)) (hrest : rest.length ≤ sizeLine)
    (hq : ∀ h' t1, (∀ b o, b ≠ e → h.get? b = some o → h'.get? b = some o) → h'.get? e = some (HandSPX.excO C t1) → Q .none ⟨h', g, d, t, os⟩) :
    wpAny (model prog w) A (call (.ref u) rest) Q E ⟨h, g, d, t, os⟩ := by
  refine wpAny_call (codeAny_of_tree ?_)
  show wpAny _ A.in1 (callAny (.ref u) ⟨rest, []⟩) _ _ _
  simp only [callAny]
  refine wpAny_bind (wpAny_load hu ?_)
  simp only [kxs_mw, show (Value.type "method-wrapper" == Value.type "method" || Value.type "method-wrapper" == Value.type "builtin_function_or_method" || Value.type "method-wrapper" == Value.type "method-wrapper") = true by decide, if_true]
  refine KFB.if_so (by decide) ?_
  refine wpAny_bind (check_bound_init F.excBase_ValueError.toExcCallFacts hC he rfl ?_)
  refine wpAny_bind (wpAny_pure (wpAny_pure ?_))
  refine ⟨plainId_quiet F.excBase_ValueError.init.plain _, codeAny_builtin F.excBase_ValueError.initEntry ?_⟩
  exact exc_init_tree (cls := .ref C) (t0 := t0) (dv := none) (c2 := .none) (c3 := .none) (b4 := .bool false) he hrest fun h' k e' _ => hq h' _ k e'
end
/-- what the written part says of such a class: C, its __init__ at f, the cell and the code of that one -/
structure SeC (P : Program) (K : PySem.W.Frag) (mg : Str → Option Value) (qual : Str) (st : Stmt) (C f cc cda : Addr) (fd : FuncData) : Prop where
  oex : OexC K C
  iC : PySem.W.findIn K (.ref C) "__init__" = some (some (.ref f))
  tI : PySem.W.typeIn K (.ref f) = some (.type "function")
  fn : ∃ (oc : Value) (od : Option Addr) (kV doc pm : Value) (an : Option Addr) (ct : Value) (osl : Array (Option Value)),
    fd = PySem.W.ksFn "__init__" qual (defArgs st) (defBody st) (defScope st) .none kV doc pm an (.ref cda) ct cc ∧ K.lookup f = some ⟨oc, od, .func fd, osl⟩ ∧ PySem.W.codeIn K (.ref cda) qual = true
  cell : ∃ (cl : Value) (cld : Option Addr) (csl : Array (Option Value)), K.lookup cc = some ⟨cl, cld, .cell (some (.ref C)), csl⟩
  code : ∃ (ccl : Value) (cdd : Option Addr) (vs : Array Value) (ccs : Array (Option Value)) (file : Str) (tf : Tok), K.lookup cda = some ⟨ccl, cdd, .fields vs, ccs⟩ ∧ vs[2]? = some (.str file tf) ∧ ((P.main.file : Str) == file) = true
  sup : PySem.W.ks_superIn K C C "__init__" = some (some (.builtin "ValueError.__init__"))
  sub : PySem.W.mroIn K C (.ref C) = some true
  ve : PySem.W.subIn K (.ref C) (.type "ValueError") = some true
  opq : PySem.W.nsIn K cStatics "thirdparty.any" = some none
  nosup : mg "super" = none
  top : (P.main.scope.names.lookup ("super" : Str)).isSome = false
abbrev seF (qual : Str) (st : Stmt) (cc cda : Addr) : NF := ⟨"__init__", qual, defArgs st, defBody st, defScope st, [("__class__", cc)], cda⟩
section
variable {CX : CXT} {P : Program} {w : World} {K : PySem.W.Frag} {mg : Str → Option Value} {base : Heap} {qual : Str} {st : Stmt} {C f cc cda : Addr} {fd : FuncData} {N ps : List Str} {k : Nat} {sp : Sp} {rest : List Stmt} {text : Str} {p0 p1 p2 p3 p4 p5 : Pos} {j0 : Nat}
theorem fn_se (T : SeC P K mg qual st C f cc cda fd) (S : NScope N ("self" :: ps) ["__class__"] (defScope st)) (hsup : (defScope st).names.lookup ("super" : Str) = some .globalImplicit)
    (hbody : defBody st = .Expr (.Call (.Attribute (.Call (.Name "super" p0) [] [] p1) "__init__" p2) [.Constant (.str text) j0 p3] [] p4) p5 :: rest)
    (hcall : ∀ env : Env, ∃ pl : Sem Bool, eval (.Call (.Attribute (.Call (.Name "super" p0) [] [] p1) "__init__" p2) [.Constant (.str text) j0 p3] [] p4) env = (do
      let ov ← attributeBase (.Call (.Name "super" p0) [] [] p1) "__init__" env (eval (.Call (.Name "super" p0) [] [] p1) env)
      standAt p2.atName
      let (f, first) ← holding [ov] (getMethod ov "__init__" pl)
      callWith p4 f first (backTo p4 (starEach [.Constant (.str text) j0 p3] env)) []))
    (hhead : ∃ ar : Arg, ((defArgs st).posonlyargs ++ (defArgs st).args).head? = some ar ∧ ar.arg = "self")
    (len : ∀ vs H Q E, sp vs H Q E → vs.length = ps.length + 1)
    (go : ∀ (A : Around) (outer : List Env) (s : Shared) (H : Hp) (vs : List V) (Q : VK) (E : XK), Room k (A.deeper (envF (seF qual st cc cda) f s.heap.objs.size)) → sp vs H Q E → ∃ a vs', vs = .ref a :: vs' ∧ H a = some (exo a C none) ∧
      ∃ t, PSs (ncx CX P w K mg base N (seF qual st cc cda) f A outer s H E) rest t ∧ t { nx := fun _ H' => Q .non H', rt := Q } (startF N vs [none]) H) :
    FnOk P w K mg base CX (k + 1) f fd ("self" :: ps) sp := by
  refine ⟨len, fun A outer s H args us vs Q E hr e0 hb r hsp => ?_⟩
  have hl := len _ _ _ _ hsp
  obtain ⟨oc, od, kV, doc, pm, an, ct, osl, rfl, lk, hcd⟩ := T.fn
  obtain ⟨cl, cld, csl, kcell⟩ := T.cell
  obtain ⟨ccl, cdd, cvs, ccs, file, tf, kcode, hvs, hfile⟩ := T.code
  obtain ⟨nm, q, N0, bs, bm, sn, sub, ab, col, dd, k0, k1, k2, k3, k5, hC, hbm⟩ := T.oex.cls
  obtain ⟨ar, har, harg⟩ := hhead
  have KX : K.In s.heap := e0.mod.kin.keeps fun b o e => (e0.bs b o e).1
  have lim : s.heap.NoLimit := e0.mod.nolimit.keeps fun b o e => (e0.bs b o e).1
  have hfree : ∀ {b : Addr} {o : Obj}, K.lookup b = some o → H b = none := fun {b o} e => (e0.bs b o (e0.mod.kin b o e)).2
  have hone : ∀ {y : Str} {c : Addr}, (seF qual st cc cda).cl.lookup y = some c → y = "__class__" ∧ c = cc := fun {y c} e => by
    have e : (List.lookup y [(("__class__" : Str), cc)]) = some c := e
    unfold List.lookup at e
    split at e
    · rename_i h
      exact ⟨by simpa using h, (Option.some.inj e).symm⟩
    · cases e
  have hcells : CellsAt (seF qual st cc cda).cl ["__class__"] [none] s.heap H := by
    refine ⟨rfl, fun y c e => ?_, fun x y c e1 e2 => ?_, fun i y hi => ?_⟩
    · obtain ⟨rfl, rfl⟩ := hone e
      exact ⟨hfree kcell, _, _, KX _ _ kcell, rfl⟩
    · rw [(hone e1).1, (hone e2).1]
    · cases i with
      | zero =>
        cases hi
        refine ⟨cc, by rfl, fun v hv => ?_⟩
        cases hv
      | succ i => cases hi
  obtain ⟨a, vs', rfl, ha, tt, ht, hq⟩ := go A outer s H vs Q E (hr.deeper _) hsp
  refine ks_codeAny_call_defAt (body := defBody st) (binds := ((("self" : Str) :: ps).zip us)) hr.depth (KX _ _ lk) rfl lim (PySem.W.codeRec_of KX hcd) rfl hb S.nocell (fun ⟨n, _⟩ hy => S.par n (List.of_mem_zip hy).1) (fun h₁ hns kp => ?_) S.co S.gen S.kind
  have I : Inv (ncx CX P w K mg base N (seF qual st cc cda) f A outer s H E) [] (startF N (.ref a :: vs') [none]) H { s with heap := h₁, toks := s.toks + ((("self" : Str) :: ps).zip us).length } := inv_startN S hr.hd e0 hl r hcells hns kp
  have hps : us.length = vs'.length + 1 := r.length.symm
  obtain ⟨hh, g, d, tk, os⟩ := s
  dsimp only at I hns kp KX hq ht ⊢
  have X1 : K.In h₁ := KX.keeps kp
  generalize tk + ((("self" : Str) :: ps).zip us).length = tk1 at I ⊢
  obtain ⟨t1, hex⟩ := exo_at I.hok ha
  have ndP : ((("self" : Str) :: ps)).Nodup := by
    have q := S.nd.sublist (List.take_sublist ((("self" : Str) :: ps).length + [Str.ofString "__class__"].length) N)
    rw [S.pre] at q
    exact (List.nodup_append.mp q).1
  have hself : (((("self" : Str) :: ps).zip us).reverse).lookup ("self" : Str) = some (Value.ref a) := by
    cases r with
    | @cons _ u0 _ ur ra _ =>
      obtain rfl : u0 = Value.ref a := ra
      exact zip_look (i := 0) ndP rfl rfl
  have hCh := X1 _ _ hC
  have bk : ∀ b o, base.get? b = some o → h₁.get? b = some o := fun b o e => kp _ _ (e0.bs b o e).1
  have hks : (envF (seF qual st cc cda) f hh.objs.size).kindOf "super" = some .globalImplicit := hsup
  have hkc : (envF (seF qual st cc cda) f hh.objs.size).kindOf "__class__" = some .free := S.frk _ (by simp)
  have hka : (envF (seF qual st cc cda) f hh.objs.size).kindOf "self" = some .local := S.par _ (by simp)
  rw [hbody]
  have hint : interactive (envF (seF qual st cc cda) f hh.objs.size) = false := by
    show ((defScope st).kind == .module && _) = false
    rw [S.kind]; rfl
  obtain ⟨pl, hpl⟩ := hcall (envF (seF qual st cc cda) f hh.objs.size)
  refine ks_wpAt_execs_cons (ks_wpAt_Expr_any (ks_wpAt_MethodCall (pl := pl) ?_ hpl) hint)
  refine ks_wpAt_super_base (env := envF (seF qual st cc cda) f hh.objs.size) hks hkc (by decide) rfl (X1 _ _ lk) rfl har rfl (X1 _ _ kcode) rfl hvs hfile T.top ?_
  obtain ⟨mb, hb1, hb2⟩ := e0.mod.blt
  refine PySem.W.ks_loadName_global S.kind hks (Calls.loadGlobal_builtin (e0.mod.glob.keeps bk) T.nosup (hb1.keeps bk) ((hb2 "super" (by decide)).trans (show bootBuiltins "super" = some (.type "super") by first | rfl | kernel_rfl)) ⟨rfl, ?_⟩)
  refine wpAny_loadName_free S.kind hkc rfl ⟨_, X1 _ _ kcell, rfl⟩ ?_
  rw [harg]
  refine wpAny_loadName_local S.kind hka hns hself ?_
  refine ks_wpAny_isType_cls hCh rfl ⟨rfl, ?_⟩
  refine ks_wpAny_call_super hCh rfl hex rfl (fun c e => by cases e) (PySem.W.looks_mroIn X1 T.sub) (fun h2 hso k2 => ?_)
  have X2 : K.In h2 := X1.keeps k2
  have hcd2 : ∃ cd, PySem.W.clsIn K C = some cd := by unfold PySem.W.clsIn; rw [hC]; exact ⟨_, rfl⟩
  obtain ⟨cd, hc⟩ := hcd2
  have hm := T.sup
  unfold PySem.W.ks_superIn at hm
  rw [hc] at hm
  have hin : PySem.W.InstAt h2 a (HandSPX.excO C t1) C none := ⟨k2 _ _ hex, rfl, rfl, trivial⟩
  have hI : PySem.W.Looks (model P w) h2 (isInstance (.ref a) (.type "ValueError")) true := hin.type.andThen (PySem.W.looks_subIn X2 T.ve)
  refine PySem.W.kxs_getMethod PySem.W.kxs_ValueError hso (PySem.W.looks_opaque X2 T.opq) (l₀ := cd.mro) (fun A Q E s k q => wpAny_bind ((PySem.W.looks_clsIn X2 hc) A _ E s k (wpAny_pure q))) rfl X2 hm hI (PySem.W.ks_ne X2 hin hc) (by decide) ?_
  have hu : (h2.push (PySem.W.kxs_mw "ValueError.__init__" a)).get? h2.objs.size = some (PySem.W.kxs_mw "ValueError.__init__" a) := Heap.get?_push_size h2 rfl
  have k3 : ∀ b o, h₁.get? b = some o → (h2.push (PySem.W.kxs_mw "ValueError.__init__" a)).get? b = some o := fun b o e => Heap.get?_push_of_some _ (k2 _ _ e)
  have hsz : h₁.objs.size ≤ h2.objs.size := Nat.le_of_lt (Heap.lt_size hso)
  have I3 := (I.kept (t' := tk1 + 1) k3).pins_of (pins' := [(h2.objs.size, PySem.W.kxs_mw "ValueError.__init__" a)]) (fun p hp => by
    obtain rfl := List.mem_singleton.mp hp
    exact ⟨hu, I.hok.fresh hsz, Nat.ne_of_gt (Nat.lt_of_lt_of_le I.lt hsz), I.nofs hsz, fun v z => by cases z⟩)
  generalize h2.push (PySem.W.kxs_mw "ValueError.__init__" a) = h3 at hu I3 ⊢
  show wpAny _ _ (callWith p4 (.ref h2.objs.size) [] (backTo p4 (starEach [.Constant (.str text) j0 p3] (envF (seF qual st cc cda) f hh.objs.size))) []) _ _ _
  refine PySem.W.kxs_callWith (i := "ValueError.__init__") (x := a) (by rfl) (Calls.evalArgs_plain (thn ((pa_cons pe_str pa_nil).run p4 _ _ _ H (fun vs H1 => vs = [V.str text] ∧ H1 = H) I3 ⟨rfl, rfl⟩) fun us1 s1 ⟨vs1, H1, I4, rv, ev, eH⟩ => ?_))
  subst ev eH
  obtain ⟨h4, g4, d4, tk4, os4⟩ := s1
  obtain ⟨t4, hex4⟩ := exo_at I4.hok ha
  have hu4 := (I4.pin (h2.objs.size, PySem.W.kxs_mw "ValueError.__init__" a) (by exact List.mem_append_right _ (List.mem_singleton.mpr rfl))).1
  refine ⟨hu4, call_mw (I4.kIn _ _ hC) hex4 hu4 (by show us1.length ≤ sizeLine; rw [← Paired.length rv, sizeLine_eq]; show 1 ≤ 16777216; decide) fun h5 t5 k5 hx5 => ?_⟩
  have J := I4.write (t' := tk4) (x := a) (e := a) (o := exo a C none) (by rw [ha]; exact True.intro) (.inl rfl) k5 ⟨_, hx5⟩ (exo_ok hx5)
  have eu : upd H1 a (exo a C none) = H1 := by
    funext b
    by_cases hb : b = a
    · rw [hb, upd_same, ha]
    · rw [upd_ne hb]
  rw [eu] at J
  refine wpAt_of_wpAny ?_
  have J2 := J.pins_of (pins' := []) (fun p hp => absurd hp (by simp))
  refine wpAny_mono (ht.run [] _ _ H1 _ J2 hq) (fun fl s' hs => ?_) fun e s' hs => hs
  have fin : ∀ {σ' : L2.St} {H' : Hp} {v : V} {u : Value}, Inv (ncx CX P w K mg base N (seF qual st cc cda) f A outer ⟨hh, g, d, tk, os⟩ H1 E) [] σ' H' s' → L2.RelV v u → Q v H' → CE outer P w H1 ⟨hh, g, d, tk, os⟩ Q u s' :=
    fun {σ' H' v u} J rv q => ⟨v, H', J.os, J.bare, J.base, J.hok, rv, q⟩
  cases fl with
  | ret u =>
    obtain ⟨v, σ', H', J, rv, q⟩ := hs
    exact fin J rv q
  | next =>
    obtain ⟨σ', H', J, q⟩ := hs
    exact fin (v := V.non) (u := Value.none) J rfl q
  | brk =>
    obtain ⟨_, _, _, q⟩ := hs
    exact False.elim q
  | cont =>
    obtain ⟨_, _, _, q⟩ := hs
    exact False.elim q
end
/-! ### what such an __init__ promises -/
def sp_se1 (C : Addr) (fl : Str) : Sp := fun vs H Q _ => ∃ a y, vs = [.ref a, y] ∧ H a = some (exo a C none) ∧ ∀ dx, H dx = none → dx ≠ a → Q .non (upd (upd H dx (exd dx [(fl, y)])) a (exo a C (some dx)))
def sp_se2 (C : Addr) (f1 f2 : Str) : Sp := fun vs H Q _ => ∃ a y z, vs = [.ref a, y, z] ∧ H a = some (exo a C none) ∧ ∀ dx, H dx = none → dx ≠ a → Q .non (upd (upd (upd H dx (exd dx [(f1, y)])) a (exo a C (some dx))) dx (exd dx [(f2, z), (f1, y)]))
section
variable {CX : CXT} {P : Program} {w : World} {K : PySem.W.Frag} {mg : Str → Option Value} {base : Heap} {qual : Str} {st : Stmt} {C f cc cda : Addr} {fd : FuncData} {rest : List Stmt} {text : Str} {p0 p1 p2 p3 p4 p5 q1 q2 q3 q4 q5 q6 q7 q8 : Pos} {j0 : Nat} {p p' fl fl' : Str}
def SupCall (text : Str) (j0 : Nat) (p0 p1 p2 p3 p4 : Pos) : Prop := ∀ env : Env, ∃ pl : Sem Bool, eval (.Call (.Attribute (.Call (.Name "super" p0) [] [] p1) "__init__" p2) [.Constant (.str text) j0 p3] [] p4) env = (do
      let ov ← attributeBase (.Call (.Name "super" p0) [] [] p1) "__init__" env (eval (.Call (.Name "super" p0) [] [] p1) env)
      standAt p2.atName
      let (f, first) ← holding [ov] (getMethod ov "__init__" pl)
      callWith p4 f first (backTo p4 (starEach [.Constant (.str text) j0 p3] env)) [])
theorem se1 (T : SeC P K mg qual st C f cc cda fd) (S : NScope ["self", p, "__class__"] ["self", p] ["__class__"] (defScope st)) (hsup : (defScope st).names.lookup ("super" : Str) = some .globalImplicit)
    (hbody : defBody st = [.Expr (.Call (.Attribute (.Call (.Name "super" p0) [] [] p1) "__init__" p2) [.Constant (.str text) j0 p3] [] p4) p5, .Assign [.Attribute (.Name "self" q1) fl q2] (.Name p q3) q4])
    (hcall : SupCall text j0 p0 p1 p2 p3 p4) (hhead : ∃ ar : Arg, ((defArgs st).posonlyargs ++ (defArgs st).args).head? = some ar ∧ ar.arg = "self") (hno : PySem.W.findIn K (.ref C) fl = some none)
    (hp1 : (p == ("__debug__" : Str)) = false) (hp2 : (p == ("__classdict__" : Str)) = false) (hs : ∀ env : Env, swapsWith (.Name p q3) (some (.Attribute (.Name "self" q1) fl q2)) q4.line env = pure false) :
    FnOk P w K mg base CX 1 f fd ["self", p] (sp_se1 C fl) :=
  fn_se (k := 0) (N := ["self", p, "__class__"]) (ps := [p]) T S hsup hbody hcall hhead (fun vs H Q E h => by obtain ⟨a, y, rfl, _⟩ := h; rfl) fun A outer s H vs Q E hr h => by
    obtain ⟨a, y, rfl, ha, k⟩ := h
    refine ⟨a, [y], rfl, ha, _, pss_cons (ps_ost (pe_var (i := 0) rfl (.inl (S.par _ (by simp)))) (pe_var (i := 1) rfl (.inl (S.par _ (by simp))) hp1 hp2) (hs _)) pss_nil, ?_⟩
    exact ⟨y, rfl, .ref a, rfl, a, C, rfl, T.oex, hno, .inl ⟨ha, fun dx hdx hne => k dx hdx hne⟩⟩
theorem se2 (T : SeC P K mg qual st C f cc cda fd) (S : NScope ["self", p, p', "__class__"] ["self", p, p'] ["__class__"] (defScope st)) (hsup : (defScope st).names.lookup ("super" : Str) = some .globalImplicit)
    (hbody : defBody st = [.Expr (.Call (.Attribute (.Call (.Name "super" p0) [] [] p1) "__init__" p2) [.Constant (.str text) j0 p3] [] p4) p5, .Assign [.Attribute (.Name "self" q1) fl q2] (.Name p q3) q4, .Assign [.Attribute (.Name "self" q5) fl' q6] (.Name p' q7) q8])
    (hcall : SupCall text j0 p0 p1 p2 p3 p4) (hhead : ∃ ar : Arg, ((defArgs st).posonlyargs ++ (defArgs st).args).head? = some ar ∧ ar.arg = "self") (hno : PySem.W.findIn K (.ref C) fl = some none) (hno' : PySem.W.findIn K (.ref C) fl' = some none)
    (hp1 : (p == ("__debug__" : Str)) = false) (hp2 : (p == ("__classdict__" : Str)) = false) (hs : ∀ env : Env, swapsWith (.Name p q3) (some (.Attribute (.Name "self" q1) fl q2)) q4.line env = pure false)
    (hp1' : (p' == ("__debug__" : Str)) = false) (hp2' : (p' == ("__classdict__" : Str)) = false) (hs' : ∀ env : Env, swapsWith (.Name p' q7) (some (.Attribute (.Name "self" q5) fl' q6)) q8.line env = pure false) :
    FnOk P w K mg base CX 1 f fd ["self", p, p'] (sp_se2 C fl fl') :=
  fn_se (k := 0) (N := ["self", p, p', "__class__"]) (ps := [p, p']) T S hsup hbody hcall hhead (fun vs H Q E h => by obtain ⟨a, y, z, rfl, _⟩ := h; rfl) fun A outer s H vs Q E hr h => by
    obtain ⟨a, y, z, rfl, ha, k⟩ := h
    refine ⟨a, [y, z], rfl, ha, _, pss_cons (ps_ost (pe_var (i := 0) rfl (.inl (S.par _ (by simp)))) (pe_var (i := 1) rfl (.inl (S.par _ (by simp))) hp1 hp2) (hs _)) (pss_cons (ps_ost (pe_var (i := 0) rfl (.inl (S.par _ (by simp)))) (pe_var (i := 2) rfl (.inl (S.par _ (by simp))) hp1' hp2') (hs' _)) pss_nil), ?_⟩
    exact ⟨y, rfl, .ref a, rfl, a, C, rfl, T.oex, hno, .inl ⟨ha, fun dx hdx hne => ⟨z, rfl, .ref a, rfl, a, C, rfl, T.oex, hno', .inr ⟨dx, [(fl, y)], upd_same, by rw [upd_ne hne]; exact upd_same, by show 1 ≤ 900; decide, k dx hdx hne⟩⟩⟩⟩
theorem se0 (T : SeC P K mg qual st C f cc cda fd) (S : NScope ["self", "__class__"] ["self"] ["__class__"] (defScope st)) (hsup : (defScope st).names.lookup ("super" : Str) = some .globalImplicit)
    (hbody : defBody st = [.Expr (.Call (.Attribute (.Call (.Name "super" p0) [] [] p1) "__init__" p2) [.Constant (.str text) j0 p3] [] p4) p5])
    (hcall : SupCall text j0 p0 p1 p2 p3 p4) (hhead : ∃ ar : Arg, ((defArgs st).posonlyargs ++ (defArgs st).args).head? = some ar ∧ ar.arg = "self") :
    FnOk P w K mg base CX 1 f fd ["self"] (fun vs H Q _ => ∃ a, vs = [.ref a] ∧ H a = some (exo a C none) ∧ Q .non H) :=
  fn_se (k := 0) (N := ["self", "__class__"]) (ps := []) T S hsup hbody hcall hhead (fun vs H Q E h => by obtain ⟨a, rfl, _⟩ := h; rfl) fun A outer s H vs Q E hr h => by
    obtain ⟨a, rfl, ha, k⟩ := h
    exact ⟨a, [], rfl, ha, _, pss_nil, k⟩
end
/-! ### raise, read -/
theorem del_upd {H1 : Hp} {a dx : Addr} {o1 o2 o3 o : HO} (ha : H1 a = none) (hne : dx ≠ a) : upd (del (upd (upd (upd H1 a o1) dx o2) a o3) a) dx o = upd H1 dx o := by
  funext b
  by_cases hb : b = dx
  · rw [hb, upd_same, upd_same]
  · rw [upd_ne hb, upd_ne hb]
    by_cases h2 : b = a
    · rw [h2, del_same, ha]
    · rw [del_ne h2, upd_ne h2, upd_ne hb, upd_ne h2]
section
variable {β α γ : Type} {c : Cxt β} {σ : L2.St} {F H : Hp} {K : PySem.W.Frag} {ta tb : TE} {u : L2.TS} {D : Ends} {i : Nat} {C : Addr} {fl fl' : Str}
theorem sq_raise1 {m : M α} {r : Rl α} {enc : α → Fv} (ev : EvC c.w (ta σ) (fz r) m F H) (henc : ∀ F v x, r F v x → v = (enc x).v) (e0 : Xt c.F0 c.H0 F H) (hcl : c.w.cl i = C) (h : Po c (m.bd fun x => (M.exc ⟨i, [(fl, enc x)]⟩ : M β))) :
    tSeq (fun _ σ H => tMkO C (sp_se1 C fl) [] (tCons ta tNil) σ H fun cls d H' => c.w.E cls d H') u D σ H := by
  refine EvC.run (C := ta σ) ev e0 h fun x v F1 H1 e1 hv hk => ?_
  have hv : v = (enc x).v := henc _ _ _ hv
  subst hcl
  show [v].length ≤ 1000 ∧ _
  refine ⟨by simp, fun a ha => ⟨a, v, rfl, upd_same, fun dx hdx hne => ?_⟩⟩
  rw [upd_ne hne] at hdx
  refine ⟨rfl, dx, [(fl, v)], upd_same, by rw [upd_ne hne]; exact upd_same, hdx, ?_⟩
  rw [del_upd ha hne]
  refine hk.2 _ _ _ ((e0.trans e1).newM hdx) (.inl ⟨dx, rfl, ?_⟩)
  rw [upd_same, hv]; rfl
theorem del_upd2 {H1 : Hp} {a dx : Addr} {o1 o2 o3 o4 o : HO} (ha : H1 a = none) (hne : dx ≠ a) : upd (del (upd (upd (upd (upd H1 a o1) dx o2) a o3) dx o4) a) dx o = upd H1 dx o := by
  funext b
  by_cases hb : b = dx
  · rw [hb, upd_same, upd_same]
  · rw [upd_ne hb, upd_ne hb]
    by_cases h2 : b = a
    · rw [h2, del_same, ha]
    · rw [del_ne h2, upd_ne hb, upd_ne h2, upd_ne hb, upd_ne h2]
theorem sq_raise2 {m : M α} {r : Rl α} {enc : α → Fv} {n : M γ} {s : Rl γ} [Mono r] {enc' : γ → Fv} (ev : EvC c.w (ta σ) (fz r) m F H) (ev' : EvC c.w (tb σ) (fz s) n F H) (henc : ∀ F v x, r F v x → v = (enc x).v) (henc' : ∀ F v x, s F v x → v = (enc' x).v)
    (e0 : Xt c.F0 c.H0 F H) (hcl : c.w.cl i = C) (h : Po c (m.bd fun x => n.bd fun y => (M.exc ⟨i, [(fl', enc' y), (fl, enc x)]⟩ : M β))) :
    tSeq (fun _ σ H => tMkO C (sp_se2 C fl fl') [] (tCons ta (tCons tb tNil)) σ H fun cls d H' => c.w.E cls d H') u D σ H := by
  refine EvC.run (C := ta σ) ev e0 h fun x v F1 H1 e1 hv hk => ?_
  refine EvC.run (C := tb σ) (ev'.up e1) (e0.trans e1) hk fun y v' F2 H2 e2 hv' hk => ?_
  have hv : v = (enc x).v := henc _ _ _ hv
  have hv' : v' = (enc' y).v := henc' _ _ _ hv'
  subst hcl
  show [v, v'].length ≤ 1000 ∧ _
  refine ⟨by simp, fun a ha => ⟨a, v, v', rfl, upd_same, fun dx hdx hne => ?_⟩⟩
  rw [upd_ne hne] at hdx
  refine ⟨rfl, dx, [(fl', v'), (fl, v)], by rw [upd_ne (Ne.symm hne)]; exact upd_same, upd_same, hdx, ?_⟩
  rw [del_upd2 ha hne]
  refine hk.2 _ _ _ ((e0.trans (e1.trans e2)).newM hdx) (.inl ⟨dx, rfl, ?_⟩)
  rw [upd_same, hv, hv']; rfl
end
/-! ### a caught error -/
def xI (e : Ex) (f : Str) : M Int := match e.fs.lookup f with
  | some (.int i) => .ok i
  | _ => .bad
def xT (e : Ex) (f : Str) : M (List Nat) := match e.fs.lookup f with
  | some (.txt l) => M.gd (l.length ≤ sizeLine) (.ok l)
  | _ => .bad
theorem vs_look {e : Ex} {f : Str} : e.vs.lookup f = (e.fs.lookup f).map Fv.v := by
  unfold Ex.vs
  induction e.fs with
  | nil => rfl
  | cons p r ih =>
    obtain ⟨k, x⟩ := p
    rw [List.map_cons]
    by_cases h : f = k
    · subst h; simp [List.lookup]
    · have e : (f == k) = false := by simpa using h
      simp only [List.lookup, e]
      exact ih
theorem exD.up {e : Ex} {d : Option Addr} {H H' : Hp} (h : exD e d H) (s : Same H H') : exD e d H' := by
  rcases h with ⟨dx, h1, h2⟩ | h
  · exact .inl ⟨dx, h1, s _ _ h2⟩
  · exact .inr h
section
variable {w : Xw} {σ : L2.St} {F H : Hp} {a C : Addr} {d : Option Addr} {f : Str} {i : Nat} {e : Ex}
theorem e_xI (h : exD e d H) (hs : σ[i]? = some (some (.ref a))) : EvC w (tXf a (.ref C) d C f (tVar i) σ) (fz rI) (xI e f) F H := fun F1 H1 e1 => by
  unfold xI
  cases hl : e.fs.lookup f with
  | none => trivial
  | some v =>
    cases v with
    | txt l => trivial
    | int k =>
      intro Q q
      rcases h with ⟨dx, rfl, h2⟩ | ⟨_, h2⟩
      · exact ⟨_, hs, rfl, rfl, dx, e.vs, .int k, rfl, e1.hh _ _ h2, by rw [vs_look, hl]; rfl, q _ _ _ (Xt.refl e1.fh) rfl⟩
      · rw [h2] at hl; cases hl
theorem e_xT (h : exD e d H) (hs : σ[i]? = some (some (.ref a))) : EvC w (tXf a (.ref C) d C f (tVar i) σ) (fz qS) (xT e f) F H := fun F1 H1 e1 => by
  unfold xT
  cases hl : e.fs.lookup f with
  | none => trivial
  | some v =>
    cases v with
    | int l => trivial
    | txt k =>
      show EvN w _ _ (M.gd _ _) F1 H1
      unfold M.gd
      split
      case isFalse => trivial
      rename_i hk
      intro Q q
      rcases h with ⟨dx, rfl, h2⟩ | ⟨_, h2⟩
      · exact ⟨_, hs, rfl, rfl, dx, e.vs, .str (S k), rfl, e1.hh _ _ h2, by rw [vs_look, hl]; rfl, q _ _ _ (Xt.refl e1.fh) ⟨rfl, hk⟩⟩
      · rw [h2] at hl; cases hl
end
/-! ### try of one statement, one clause -/
def M.tr {α β : Type} (m : M α) (h : Ex → M β) (k : α → M β) : M β := match m with
  | .ok x => k x
  | .exc e => h e
  | .bad => .bad
section
variable {β α : Type} {c : Cxt β} {σ : L2.St} {F H : Hp} {K : PySem.W.Frag} {u : L2.TS} {D : Ends} {i : Nat} {C : Addr} {nr : Nat → Nat}
/-- x = m, tried: te W the reading of m where W is wished of an error -/
theorem sq_tryA {te : WX → TE} {R : R3 α} {m : M α} {hh : Ex → M β} {k : α → M β} {j l : Nat} {ts : Addr → Value → Option Addr → L2.TS} {Wout : WX}
    (ev : ∀ W : WX, EvC ⟨True, fun cls d H' => W cls d σ H', c.w.cl⟩ (te W σ) R m F H) (e0 : Xt c.F0 c.H0 F H) (hexm : ∀ n, PySem.W.exmOne K (.ref (c.w.cl n)) (.ref C) = some (decide (nr n = i))) (hcl : ∀ n, nr n = i → c.w.cl n = C)
    (hW : ∀ cls d σ H, c.w.on → c.w.E cls d H → Wout cls d σ H) (h : Po c (M.tr m (fun e => if nr e.cls = i then hh e else .exc e) k)) (σ' : V → L2.St) (hσ : ∀ v, σ.set j (some v) = σ' v)
    (go : ∀ x v F1 H1, Xt F H F1 H1 → Xt c.F0 c.H0 F1 H1 → R H F1 H1 v x → Po c (k x) → u D (σ' v) H1)
    (hd : ∀ e a d F1 H1, Xt F H F1 H1 → Xt c.F0 c.H0 F1 H1 → exD e d H1 → H1 a = none → Po c (hh e) →
      ts a (.ref C) d { nx := fun σ' H' => u D (σ'.set l none) H', rt := D.rt, bk := fun σ' H' => D.bk (σ'.set l none) H', ct := fun σ' H' => D.ct (σ'.set l none) H' } (σ.set l (some (.ref a))) H1) :
    tSeq (fun D σ H => tAsg (te (wAs K (.ref C) l ts Wout D)) (gName j) D σ H) u D σ H := by
  have ev := ev (wAs K (.ref C) l ts Wout { D with nx := u D })
  have h1 := ev F H (Xt.refl e0.fh)
  show te _ σ H _
  cases m with
  | bad => exact h.elim
  | ok x =>
    refine h1 _ fun v F2 H2 e2 hr => ?_
    show u D (σ.set j (some v)) H2
    rw [hσ]
    exact go x v F2 H2 e2 (e0.trans e2) hr h
  | exc e =>
    refine h1 ⟨True.intro, fun F2 H2 d e2 hx => ?_⟩ _
    refine ⟨decide (nr e.cls = i), hexm _, fun hb a ha => ?_, fun hb => ?_⟩
    · have hb : nr e.cls = i := of_decide_eq_true hb
      have h : Po c (if nr e.cls = i then hh e else .exc e) := h
      rw [if_pos hb] at h
      rw [hcl _ hb]
      exact hd e a d F2 H2 e2 (e0.trans e2) hx ha h
    · have hb : ¬ nr e.cls = i := of_decide_eq_false hb
      have h : Po c (if nr e.cls = i then hh e else .exc e) := h
      rw [if_neg hb] at h
      have h : Out c.w c.F0 c.H0 e := h
      exact hW _ _ _ _ h.1 (h.2 F2 H2 d (e0.trans e2) hx)
end
/-- the same, the value dropped -/
theorem sq_tryD {β α : Type} {c : Cxt β} {σ : L2.St} {F H : Hp} {K : PySem.W.Frag} {u : L2.TS} {D : Ends} {i : Nat} {C : Addr} {nr : Nat → Nat} {te : WX → TE} {R : R3 α} {m : M α} {hh : Ex → M β} {k : α → M β} {l : Nat} {ts : Addr → Value → Option Addr → L2.TS} {Wout : WX}
    (ev : ∀ W : WX, EvC ⟨True, fun cls d H' => W cls d σ H', c.w.cl⟩ (te W σ) R m F H) (e0 : Xt c.F0 c.H0 F H) (hexm : ∀ n, PySem.W.exmOne K (.ref (c.w.cl n)) (.ref C) = some (decide (nr n = i))) (hcl : ∀ n, nr n = i → c.w.cl n = C)
    (hW : ∀ cls d σ H, c.w.on → c.w.E cls d H → Wout cls d σ H) (h : Po c (M.tr m (fun e => if nr e.cls = i then hh e else .exc e) k))
    (go : ∀ x v F1 H1, Xt F H F1 H1 → Xt c.F0 c.H0 F1 H1 → R H F1 H1 v x → Po c (k x) → u D σ H1)
    (hd : ∀ e a d F1 H1, Xt F H F1 H1 → Xt c.F0 c.H0 F1 H1 → exD e d H1 → H1 a = none → Po c (hh e) →
      ts a (.ref C) d { nx := fun σ' H' => u D (σ'.set l none) H', rt := D.rt, bk := fun σ' H' => D.bk (σ'.set l none) H', ct := fun σ' H' => D.ct (σ'.set l none) H' } (σ.set l (some (.ref a))) H1) :
    tSeq (fun D σ H => tDrop (te (wAs K (.ref C) l ts Wout D)) D σ H) u D σ H := by
  have ev := ev (wAs K (.ref C) l ts Wout { D with nx := u D })
  have h1 := ev F H (Xt.refl e0.fh)
  show te _ σ H _
  cases m with
  | bad => exact h.elim
  | ok x =>
    refine h1 _ fun v F2 H2 e2 hr => ?_
    exact go x v F2 H2 e2 (e0.trans e2) hr h
  | exc e =>
    refine h1 ⟨True.intro, fun F2 H2 d e2 hx => ?_⟩ _
    refine ⟨decide (nr e.cls = i), hexm _, fun hb a ha => ?_, fun hb => ?_⟩
    · have hb : nr e.cls = i := of_decide_eq_true hb
      have h : Po c (if nr e.cls = i then hh e else .exc e) := h
      rw [if_pos hb] at h
      rw [hcl _ hb]
      exact hd e a d F2 H2 e2 (e0.trans e2) hx ha h
    · have hb : ¬ nr e.cls = i := of_decide_eq_false hb
      have h : Po c (if nr e.cls = i then hh e else .exc e) := h
      rw [if_neg hb] at h
      have h : Out c.w c.F0 c.H0 e := h
      exact hW _ _ _ _ h.1 (h.2 F2 H2 d (e0.trans e2) hx)
/-! ### calls that may let out an error; calls that may not, among them -/
section
variable {w : Xw} {σ : L2.St} {F H : Hp} {K : PySem.W.Frag} {α γ : Type} {ta : TE}
/-- where no error is told of, what lets none out is no less -/
theorem e_off {ω : Type} {C : Hp → (ω → Hp → Prop) → Prop} {R : Hp → Hp → Hp → ω → α → Prop} {m : M α} (h : EvC ⟨False, w.E, w.cl⟩ C R m F H) : EvC w C R m.nox F H := fun F1 H1 e1 => by
  have h1 := h F1 H1 e1
  cases m with
  | ok x => exact h1
  | exc e => trivial
  | bad => trivial
theorem e_callS {τ : Type} {Rs : Hp → Hp → Hp → List V → τ → Prop} {rr : R3 γ} [Dn rr] {f : τ → M γ} {ts : TA} {E' : L2.St → XK} {T : ∀ {γ' : Type}, (τ → M γ') → M γ'} (hw : w.on) (hE : E' σ = w.E) (hs : EvA w ts σ Rs T F H) :
    EvC w (tCallS (Pm True w.cl Rs rr f) E' ts σ) rr (T f) F H := fun F0 H0 e0 => by
  refine hs F0 H0 e0 (fun vs H Q => Pm True w.cl Rs rr f vs H Q (E' σ)) rr f fun x vs F2 H2 e2 hr => ?_
  rw [hE]
  cases hf : f x with
  | bad => trivial
  | exc e =>
    refine fun o Q => ⟨F2, x, e2.fh, hr, ?_⟩
    rw [hf]
    exact ⟨trivial, o.2⟩
  | ok y =>
    refine fun Q q => ⟨F2, x, e2.fh, hr, ?_⟩
    rw [hf]
    exact fun v F' H' e h => q v F' H' e h
def tMethS (C : Addr) (mn : Str) (sp : Sp) (E : L2.St → XK) (ta : TE) (t : TA) : TE := fun σ H Q => ta σ H fun x H1 => ∃ a dx fs, x = .ref a ∧ H1 a = some (.ins C dx fs) ∧ fs.lookup mn = none ∧ t σ H1 fun vs H2 => sp (x :: vs) H2 Q (E σ)
theorem pe_methS {X : L2.Cx} {CX : CXT} {k : Nat} {f C : Addr} {fd : FuncData} {ps : List Str} {sp : Sp} {E : L2.St → XK} {m : Str} {pos apos : Pos} {e o : Expr} {es : List Expr} {t : TA} {pl : Sem Bool} (he : PE X o ta) (c : Cls X.K C) (hm : Meth X.K C m f) (Fn : FnOk X.prog X.w X.K X.mg X.base CX k f fd ps sp) (hr : Room k X.A) (hb : Binds X.K fd ps []) (hx : ∀ σ, PassesAt CX X σ (E σ)) (ha : PA X (e :: es) t)
    (hst : starEach (e :: es) X.env = (false, eval e X.env) :: starEach es X.env := by rfl) (hpl : (backTo pos (starEach es X.env)).any (·.1) = false := by rfl)
    (ht : eval (.Call (.Attribute o m apos) (e :: es) [] pos) X.env = (do
      let ov ← eval o X.env
      standAt apos.atName
      let (f, first) ← holding [ov] (getMethod ov m pl)
      callWith pos f first (backTo pos (starEach (e :: es) X.env)) (backToKw pos (keywordEach [] X.env))) := by rfl) :
    PE X (.Call (.Attribute o m apos) (e :: es) [] pos) (tMethS C m sp E ta t) := by
  refine ⟨fun pins s σ H Q I h => ?_⟩
  refine PySem.W.methodCall_KW (pl := pl) (thn (he.run pins s σ H _ I h) fun u s1 ⟨x, H1, I1, rx, a, dx, fs, ex, ea, l, q⟩ => ?_) ht
  subst ex
  obtain rfl : u = Value.ref a := rx
  refine getmeth_ok I1 ea c hm l ?_
  refine PySem.W.callWith_K (first := [.ref a]) (h₀ := X.base) I.ok.mod.kin hm.kp (thn (ha.run pos pins s1 σ H1 _ I1 q) fun us s2 ⟨vs, H2, I2, r, q2⟩ => ⟨I2.kIn, ?_⟩) hst hpl
  exact run_fnS (us := .ref a :: us) (vs := .ref a :: vs) Fn hr hb (hx σ) I2 (.cons rfl r) q2
theorem e_methS {τ : Type} {C : Addr} {mn : Str} {R : Rl α} [Mono R] {Rs : Hp → Hp → Hp → List V → τ → Prop} {rr : R3 γ} [Dn rr] {f : α × τ → M γ} {E' : L2.St → XK} {ts : TA} {m : M α} {T : ∀ {γ' : Type}, (τ → M γ') → M γ'} (hw : w.on) (hE : E' σ = w.E)
    (ha : EvC w (ta σ) (fz R) m F H) (hk : ∀ F v x, R F v x → ∃ a dx fs, v = .ref a ∧ F a = some (.ins C dx fs) ∧ fs.lookup mn = none) (hs : EvA w ts σ Rs T F H) :
    EvC w (tMethS C mn (Pm True w.cl (rac (fz R) Rs) rr f) E' ta ts σ) rr (m.bd fun x => T fun y => f (x, y)) F H := by
  refine EvC.bind (D := fun (x : V) H (Q : VK) => ∃ a dx fs, x = .ref a ∧ H a = some (.ins C dx fs) ∧ fs.lookup mn = none ∧ ts σ H fun vs H2 => Pm True w.cl (rac (fz R) Rs) rr f (x :: vs) H2 Q (E' σ)) (R' := rr) ha fun x v F1 H1 F2 H2 e1 e2 hr => ?_
  obtain ⟨a, dx, fs, ev, h1, h2⟩ := hk _ _ _ hr
  have key : EvN w (fun H (Q : VK) => ts σ H fun vs H2 => Pm True w.cl (rac (fz R) Rs) rr f (v :: vs) H2 Q (E' σ)) rr (T fun y => f (x, y)) F2 H2 := by
    refine hs F2 H2 (e1.trans e2) (fun vs H (Q : VK) => Pm True w.cl (rac (fz R) Rs) rr f (v :: vs) H Q (E' σ)) rr (fun y => f (x, y)) fun y vs F3 H3 e3 hrs => ?_
    rw [hE]
    cases hf : f (x, y) with
    | bad => trivial
    | exc e =>
      refine fun o Q => ⟨F3, (x, y), e3.fh, ⟨v, vs, rfl, Mono.mono (r := R) e3.ff hr, hrs⟩, ?_⟩
      rw [hf]
      exact ⟨trivial, o.2⟩
    | ok z =>
      refine fun Q q => ⟨F3, (x, y), e3.fh, ⟨v, vs, rfl, Mono.mono (r := R) e3.ff hr, hrs⟩, ?_⟩
      rw [hf]
      exact fun v F' H' e h => q v F' H' e h
  cases hn : (T fun y => f (x, y)) with
  | bad => trivial
  | exc e => rw [hn] at key; exact fun o Q => ⟨a, dx, fs, ev, e2.fh _ _ h1, h2, key o Q⟩
  | ok y => rw [hn] at key; exact fun Q q => ⟨a, dx, fs, ev, e2.fh _ _ h1, h2, key Q q⟩
end
/-- .. with what follows joined -/
theorem sq_tryDj {β α S : Type} {c : Cxt β} {σ : L2.St} {F H : Hp} {K : PySem.W.Frag} {u : L2.TS} {D : Ends} {i : Nat} {C : Addr} {nr : Nat → Nat} {te : WX → TE} {R : R3 α} {m : M α} {J : S → M β} {hh : (S → M β) → Ex → M β} {k : (S → M β) → α → M β} {l : Nat} {ts : Addr → Value → Option Addr → L2.TS} {Wout : WX}
    (ev : ∀ W : WX, EvC ⟨True, fun cls d H' => W cls d σ H', c.w.cl⟩ (te W σ) R m F H) (e0 : Xt c.F0 c.H0 F H) (hexm : ∀ n, PySem.W.exmOne K (.ref (c.w.cl n)) (.ref C) = some (decide (nr n = i))) (hcl : ∀ n, nr n = i → c.w.cl n = C)
    (hW : ∀ cls d σ H, c.w.on → c.w.E cls d H → Wout cls d σ H) (h : Po c (M.jn J fun j => M.tr m (fun e => if nr e.cls = i then hh j e else .exc e) (k j))) (N : S → Hp → L2.St → Hp → Prop)
    (go : ∀ (j : S → M β) (nx : L2.St → Hp → Prop) x v F1 H1, (∀ s F' σ' H', N s F' σ' H' → Po c (j s) → nx σ' H') → Xt F H F1 H1 → Xt c.F0 c.H0 F1 H1 → R H F1 H1 v x → Po c (k j x) → nx σ H1)
    (hd : ∀ (j : S → M β) (nx : L2.St → Hp → Prop) e a d F1 H1, (∀ s F' σ' H', N s F' σ' H' → Po c (j s) → nx σ' H') → Xt F H F1 H1 → Xt c.F0 c.H0 F1 H1 → exD e d H1 → H1 a = none → Po c (hh j e) →
      ts a (.ref C) d { nx := fun σ' H' => nx (σ'.set l none) H', rt := D.rt, bk := fun σ' H' => D.bk (σ'.set l none) H', ct := fun σ' H' => D.ct (σ'.set l none) H' } (σ.set l (some (.ref a))) H1)
    (hj : ∀ s F' σ' H', N s F' σ' H' → Po c (J s) → u D σ' H') :
    tSeq (fun D σ H => tDrop (te (wAs K (.ref C) l ts Wout D)) D σ H) u D σ H :=
  sq_tryD (k := k J) (hh := hh J) ev e0 hexm hcl hW h (fun x v F1 H1 e1 e2 hr hk => go J (u D) x v F1 H1 hj e1 e2 hr hk) (fun e a d F1 H1 e1 e2 hx ha hk => hd J (u D) e a d F1 H1 hj e1 e2 hx ha hk)
/-! ### what might let out an error is called where it lets out none -/
section
variable {w : Xw} {σ : L2.St} {F H : Hp} {K : PySem.W.Frag} {α γ : Type} {ta : TE}
theorem e_callN {τ : Type} {Rs : Hp → Hp → Hp → List V → τ → Prop} {rr : R3 γ} [Dn rr] {f : τ → M γ} {cl : Nat → Addr} {E' : XK} {ts : TA} {T : ∀ {γ' : Type}, (τ → M γ') → M γ'} (hs : EvA w ts σ Rs T F H) :
    EvC w (tCall (Pm True cl Rs rr f) [] E' ts σ) rr (T fun x => (f x).nox) F H := fun F0 H0 e0 => by
  refine hs F0 H0 e0 (fun vs H Q => Pm True cl Rs rr f (vs ++ []) H Q E') rr (fun x => (f x).nox) fun x vs F2 H2 e2 hr => ?_
  cases hf : f x with
  | bad => trivial
  | exc e => trivial
  | ok y =>
    refine fun Q q => ⟨F2, x, e2.fh, by rw [List.append_nil]; exact hr, ?_⟩
    rw [hf]
    exact fun v F' H' e h => q v F' H' e h
theorem e_methN {τ : Type} {C : Addr} {mn : Str} {R : Rl α} [Mono R] {Rs : Hp → Hp → Hp → List V → τ → Prop} {rr : R3 γ} [Dn rr] {f : α × τ → M γ} {cl : Nat → Addr} {E' : XK} {ts : TA} {m : M α} {T : ∀ {γ' : Type}, (τ → M γ') → M γ'} (hw : ¬ w.on)
    (ha : EvC w (ta σ) (fz R) m F H) (hk : ∀ F v x, R F v x → ∃ a dx fs, v = .ref a ∧ F a = some (.ins C dx fs) ∧ fs.lookup mn = none) (hs : EvA w ts σ Rs T F H) :
    EvC w (tMeth C mn (Pm True cl (rac (fz R) Rs) rr f) [] E' ta ts σ) rr (m.bd fun x => T fun y => (f (x, y)).nox) F H := by
  refine EvC.bind (D := fun (x : V) H (Q : VK) => ∃ a dx fs, x = .ref a ∧ H a = some (.ins C dx fs) ∧ fs.lookup mn = none ∧ ts σ H fun vs H2 => Pm True cl (rac (fz R) Rs) rr f (x :: (vs ++ [])) H2 Q E') (R' := rr) ha fun x v F1 H1 F2 H2 e1 e2 hr => ?_
  obtain ⟨a, dx, fs, ev, h1, h2⟩ := hk _ _ _ hr
  have key : EvN w (fun H (Q : VK) => ts σ H fun vs H2 => Pm True cl (rac (fz R) Rs) rr f (v :: (vs ++ [])) H2 Q E') rr (T fun y => (f (x, y)).nox) F2 H2 := by
    refine hs F2 H2 (e1.trans e2) (fun vs H (Q : VK) => Pm True cl (rac (fz R) Rs) rr f (v :: (vs ++ [])) H Q E') rr (fun y => (f (x, y)).nox) fun y vs F3 H3 e3 hrs => ?_
    cases hf : f (x, y) with
    | bad => trivial
    | exc e => trivial
    | ok z =>
      refine fun Q q => ⟨F3, (x, y), e3.fh, by rw [List.append_nil]; exact ⟨v, vs, rfl, Mono.mono (r := R) e3.ff hr, hrs⟩, ?_⟩
      rw [hf]
      exact fun v F' H' e h => q v F' H' e h
  cases hn : (T fun y => (f (x, y)).nox) with
  | bad => trivial
  | exc e => exact fun o => absurd o.1 hw
  | ok y => rw [hn] at key; exact fun Q q => ⟨a, dx, fs, ev, e2.fh _ _ h1, h2, key Q q⟩
end
end SF
namespace SF
open PySem PySem.Spec PyProof.Rows L2
/-! ### the head's facts of own errors -/
def fnE (K : PySem.W.Frag) (a : Addr) : Option (Str × Str × Arguments × FuncBody × Scope × Addr × Addr × List Str) := match K.lookup a with
  | some ⟨_, _, .func fd, _⟩ => some (fd.name, fd.qualname, fd.params, fd.body, fd.scope, fd.globals, fd.builtins, fd.closure.map (·.1))
  | _ => none
structure ErA where
  x : Str
  q : Str
  st : Stmt
def ErA.val (e : ErA) : Option (Str × Str × Arguments × FuncBody × Scope × Addr × Addr × List Str) := some ("__init__", e.q, defArgs e.st, .stmts (defBody e.st), defScope e.st, mainGlobals, builtinsNs, ["__class__"])
def initAt (K : PySem.W.Frag) (x : Str) : Addr := He.ma K (He.ga K x) "__init__"
def cellAt (K : PySem.W.Frag) (x : Str) : Addr := match K.lookup (initAt K x) with
  | some ⟨_, _, .func fd, _⟩ => (match fd.closure with
    | [(_, c)] => c
    | _ => 0)
  | _ => 0
def codeAt (K : PySem.W.Frag) (x : Str) : Addr := match K.lookup (initAt K x) with
  | some ⟨_, _, .func fd, _⟩ => (match fd.code with
    | .ref c => c
    | _ => 0)
  | _ => 0
def isFnE (K : PySem.W.Frag) (x : Str) : Bool := match K.lookup (initAt K x) with
  | some ⟨_, _, .func fd, _⟩ => (match fd.code with
    | .ref _ => true
    | _ => false) && (match fd.defaults with
    | .none => true
    | _ => false)
  | _ => false
def clsE (K : PySem.W.Frag) (C : Addr) : Bool := match K.lookup C with
  | some ⟨.type "type", _, .cls cd, sl⟩ => (match cd.mro, sl.toList with
    | .ref C' :: bm, [_, _, _, _, some (.builtin n), _] => C' == C && (n == "ValueError.__new__" && (!cd.hasDel && (cd.hasDict && PySem.HandSPX.refsVE bm)))
    | _, _ => false)
  | _ => false
theorem clsE_ok {K : PySem.W.Frag} {C : Addr} (q : clsE K C = true) : ∃ nm q N bs bm sn sub ab col dd k0 k1 k2 k3 k5, K.lookup C = some (excClassObj nm q C N bs bm true sn sub ab col dd k0 k1 k2 k3 k5 "ValueError.__new__") ∧ PySem.HandSPX.refsVE bm = true := by
  unfold clsE at q
  split at q
  · rename_i dd cd sl ho
    split at q
    · rename_i C' bm k0 k1 k2 k3 n k5 hm hs
      simp only [Bool.and_eq_true, beq_iff_eq, Bool.not_eq_true'] at q
      obtain ⟨rfl, rfl, hdel, hdc, hr⟩ := q
      obtain ⟨nm, bs, mro, ns, qn, hd, sn, sub, ab, col, del⟩ := cd
      dsimp only at hm hdel hdc
      subst hm hdel hdc
      have hsl : sl = #[k0, k1, k2, k3, some (.builtin "ValueError.__new__"), k5] := by
        obtain ⟨l⟩ := sl
        simp only at hs
        rw [hs]
      subst hsl
      exact ⟨nm, qn, ns, bs, bm, sn, sub, ab, col, dd, k0, k1, k2, k3, k5, ho, hr⟩
    · cases q
  · cases q
def cellE (K : PySem.W.Frag) (x : Str) : Bool := match K.lookup (cellAt K x) with
  | some ⟨_, _, .cell (some (.ref c)), _⟩ => decide (c = He.ga K x)
  | _ => false
def codeE (K : PySem.W.Frag) (x fl : Str) : Bool := match K.lookup (codeAt K x) with
  | some ⟨_, _, .fields vs, _⟩ => (match (vs[2]? : Option Value) with
    | some (Value.str f _) => decide (f = fl)
    | _ => false)
  | _ => false
def erB (K : PySem.W.Frag) (x q fl : Str) : Bool :=
  clsE K (He.ga K x) && (He.eqO (PySem.W.findIn K (.ref (He.ga K x)) "__setattr__") (some (some (.builtin "object.__setattr__"))) && (decide (PySem.W.subIn K (.ref (He.ga K x)) (.type "BaseException") = some true) && (decide (PySem.W.typeIn K (.ref (He.ga K x)) = some (.type "type")) &&
  (PySem.W.keepIn K (.ref (He.ga K x)) && (He.eqO (PySem.W.findIn K (.ref (He.ga K x)) "__init__") (some (some (.ref (initAt K x)))) && (decide (PySem.W.typeIn K (.ref (initAt K x)) = some (.type "function")) && (isFnE K x && (PySem.W.codeIn K (.ref (codeAt K x)) q &&
  (cellE K x && (codeE K x fl && (He.eqO (PySem.W.ks_superIn K (He.ga K x) (He.ga K x) "__init__") (some (some (.builtin "ValueError.__init__"))) && (decide (PySem.W.mroIn K (He.ga K x) (.ref (He.ga K x)) = some true) &&
  (decide (PySem.W.subIn K (.ref (He.ga K x)) (.type "ValueError") = some true) && He.eqO (PySem.W.nsIn K cStatics "thirdparty.any") (some none))))))))))))))
theorem seC_of {P : Program} {K : PySem.W.Frag} {mg : Str → Option Value} {e : ErA} {fl : Str} (hv : fnE K (initAt K e.x) = e.val) (hb : erB K e.x e.q fl = true) (hfile : ((P.main.file : Str) == fl) = true) (htop : (P.main.scope.names.lookup ("super" : Str)).isSome = false) (hsup : mg "super" = none) :
    ∃ fd, SeC P K mg e.q e.st (He.ga K e.x) (initAt K e.x) (cellAt K e.x) (codeAt K e.x) fd := by
  unfold erB at hb
  obtain ⟨h1, hb⟩ := He.ba hb
  obtain ⟨h2, hb⟩ := He.ba hb
  obtain ⟨h3, hb⟩ := He.ba hb
  obtain ⟨h4, hb⟩ := He.ba hb
  obtain ⟨h5, hb⟩ := He.ba hb
  obtain ⟨h6, hb⟩ := He.ba hb
  obtain ⟨h7, hb⟩ := He.ba hb
  obtain ⟨h8, hb⟩ := He.ba hb
  obtain ⟨h9, hb⟩ := He.ba hb
  obtain ⟨h10, hb⟩ := He.ba hb
  obtain ⟨h11, hb⟩ := He.ba hb
  obtain ⟨h12, hb⟩ := He.ba hb
  obtain ⟨h13, hb⟩ := He.ba hb
  obtain ⟨h14, h15⟩ := He.ba hb
  have hcell : ∃ (cl : Value) (cld : Option Addr) (csl : Array (Option Value)), K.lookup (cellAt K e.x) = some ⟨cl, cld, .cell (some (.ref (He.ga K e.x))), csl⟩ := by
    unfold cellE at h10
    split at h10
    · rename_i c1 c2 c c3 ho
      have hc : c = He.ga K e.x := of_decide_eq_true h10
      exact ⟨c1, c2, c3, by rw [ho, hc]⟩
    · cases h10
  have hcode : ∃ (ccl : Value) (cdd : Option Addr) (vs : Array Value) (ccs : Array (Option Value)) (file : Str) (tf : Tok), K.lookup (codeAt K e.x) = some ⟨ccl, cdd, .fields vs, ccs⟩ ∧ vs[2]? = some (.str file tf) ∧ ((P.main.file : Str) == file) = true := by
    unfold codeE at h11
    split at h11
    · rename_i c1 c2 vs c3 ho
      split at h11
      · rename_i f tf hf
        have hc : f = fl := of_decide_eq_true h11
        exact ⟨c1, c2, vs, c3, f, tf, ho, hf, by rw [hc]; exact hfile⟩
      · cases h11
    · cases h11
  have hfn : ∃ (fd : FuncData) (oc : Value) (od : Option Addr) (kV doc pm : Value) (an : Option Addr) (ct : Value) (osl : Array (Option Value)),
      fd = PySem.W.ksFn "__init__" e.q (defArgs e.st) (defBody e.st) (defScope e.st) .none kV doc pm an (.ref (codeAt K e.x)) ct (cellAt K e.x) ∧ K.lookup (initAt K e.x) = some ⟨oc, od, .func fd, osl⟩ := by
    unfold fnE at hv
    unfold codeAt cellAt
    unfold isFnE at h8
    cases ho : K.lookup (initAt K e.x) with
    | none => rw [ho] at hv; cases hv
    | some o =>
      obtain ⟨oc, od, dt, osl⟩ := o
      rw [ho] at hv h8
      cases dt with
      | func fd =>
        obtain ⟨b1, b2⟩ := He.ba h8
        obtain ⟨nm, qn, pr, bd, sc, gl, clo, dv, kv, doc, pm, an, cd, ct, bn⟩ := fd
        dsimp only at hv b1 b2 ⊢
        unfold ErA.val at hv
        injection hv with hv
        simp only [Prod.mk.injEq] at hv
        obtain ⟨rfl, rfl, rfl, rfl, rfl, rfl, rfl, hc⟩ := hv
        have hl := congrArg List.length hc
        simp only [List.length_map, List.length_cons, List.length_nil] at hl
        cases clo with
        | nil => cases hl
        | cons p r =>
          cases r with
          | cons _ _ => simp at hl
          | nil =>
            obtain ⟨k, c⟩ := p
            have hk : k = "__class__" := by
              have := congrArg List.head? hc
              simpa using this
            subst hk
            cases cd with
            | ref cda =>
              cases dv with
              | none => exact ⟨_, oc, od, kv, doc, pm, an, ct, osl, rfl, rfl⟩
              | _ => cases b2
            | _ => cases b1
      | _ => cases hv
  obtain ⟨fd, oc, od, kV, doc, pm, an, ct, osl, e1, e2⟩ := hfn
  exact ⟨fd, ⟨⟨clsE_ok h1, He.eqO_ok h2, of_decide_eq_true h3, of_decide_eq_true h4, h5⟩, He.eqO_ok h6, of_decide_eq_true h7, ⟨oc, od, kV, doc, pm, an, ct, osl, e1, e2, h9⟩, hcell, hcode, He.eqO_ok h12, of_decide_eq_true h13, of_decide_eq_true h14, He.eqO_ok h15, hsup, htop⟩⟩
theorem se_binds {P : Program} {K : PySem.W.Frag} {mg : Str → Option Value} {qual : Str} {st : Stmt} {C f cc cda : Addr} {fd : FuncData} {ps : List Str} (T : SeC P K mg qual st C f cc cda fd)
    (h : ∀ (kV doc pm : Value) (an : Option Addr) (ct : Value) (us : List Value), us.length = ps.length → bindArgs (PySem.W.ksFn "__init__" qual (defArgs st) (defBody st) (defScope st) .none kV doc pm an (.ref cda) ct cc) ⟨us, []⟩ = pure (ps.zip us)) : Binds K fd ps [] := by
  obtain ⟨oc, od, kV, doc, pm, an, ct, osl, rfl, _, _⟩ := T.fn
  exact .all (h kV doc pm an ct)
abbrev AlQ : Type := AlP × List (Option (Str × Str × Arguments × FuncBody × Scope × Addr × Addr × List Str))
def obsQ (fa : List He.Fa) (fn : List He5.DefA) (er : List ErA) (ex : PySem.W.Frag → Bool) (K : PySem.W.Frag) : AlQ := (obsP fa fn ex K, er.map fun e => fnE K (initAt K e.x))
def valQ (fn : List He5.DefA) (er : List ErA) : AlQ := (valP fn, er.map ErA.val)
def obsQG (n : Nat) (fa : List He.Fa) (fn : List He5.DefA) (er : List ErA) (ex : PySem.W.Frag → Bool) (g : Addr → Option Obj) : AlQ := obsQ fa fn er ex (He.frG g (asP g n))
structure SaysQ (fa : List He.Fa) (fn : List He5.DefA) (er : List ErA) (ex : PySem.W.Frag → Bool) (K : PySem.W.Frag) : Prop extends SaysP fa fn ex K where
  e : (er.map fun e => fnE K (initAt K e.x)) = er.map ErA.val
def hookQ (n : Nat) (fa : List He.Fa) (fn : List He5.DefA) (er : List ErA) (ex : PySem.W.Frag → Bool) : PySem.W.Hook where
  α := AlQ
  obs := fun s => obsQG n fa fn er ex s.heap.get?
  val := fun _ => valQ fn er
  says := fun _ h => ∃ K : PySem.W.Frag, K.In h ∧ SaysQ fa fn er ex K
  of := fun _ _ e => ⟨_, He.frG_in, ⟨⟨congrArg (fun z : AlQ => z.1.1) e, congrArg (fun z : AlQ => z.1.2) e⟩, congrArg (fun z : AlQ => z.2) e⟩⟩
  keeps := fun _ _ _ ⟨K, hK, c⟩ k => ⟨K, PySem.W.Frag.In.keeps hK k, c⟩
theorem obsQG_eq {n : Nat} {fa : List He.Fa} {fn : List He5.DefA} {er : List ErA} {ex : PySem.W.Frag → Bool} {g : Addr → Option Obj} {s : Shared} (h : ∀ a, g a = s.heap.get? a) : obsQG n fa fn er ex g = (hookQ n fa fn er ex).obs s := by
  have e : g = s.heap.get? := funext h
  rw [e] <;> rfl
theorem SaysQ.er {fa : List He.Fa} {fn : List He5.DefA} {er : List ErA} {ex : PySem.W.Frag → Bool} {K : PySem.W.Frag} (c : SaysQ fa fn er ex K) (i : Nat) {e : ErA} (h : er[i]? = some e) : fnE K (initAt K e.x) = e.val := by
  have e2 : (er.map fun e => fnE K (initAt K e.x))[i]? = (er.map ErA.val)[i]? := by rw [c.e]
  rw [List.getElem?_map, List.getElem?_map, h] at e2
  exact Option.some.inj e2
end SF
/-! ### x < y, x <= y of pairs of numbers -/
namespace SF
open PySem PySem.Spec PyProof.Rows L2
def leUU (p q : Nat × Nat) : Bool := decide (p.1 < q.1 ∨ (p.1 = q.1 ∧ p.2 ≤ q.2))
def ltUU (p q : Nat × Nat) : Bool := !leUU q p
section
variable {X : Cx}
theorem dataLt_uu (p q : Nat × Nat) : (!PySem.W.dataLt (.tuple [.int (q.1 : Int), .int (q.2 : Int)]) (.tuple [.int (p.1 : Int), .int (p.2 : Int)])) = leUU p q := by
  have h := congrFun (congrFun (PySem.W.dataLe_ii (β := Nat × Nat) (fun b => (b.1 : Int)) (fun b => (b.2 : Int))) p) q
  rw [PySem.W.dataLe_eq] at h
  refine h.trans ?_
  unfold leUU
  exact decide_eq_decide.mpr (by omega)
def rCmpUU (K : PySem.W.Frag) (f : Nat × Nat → Nat × Nat → Bool) : R2 := fun x y H Q => ∃ a b p q, x = .ref a ∧ y = .ref b ∧ SqT K H a [.int ((p.1 : Nat) : Int), .int ((p.2 : Nat) : Int)] ∧ SqT K H b [.int ((q.1 : Nat) : Int), .int ((q.2 : Nat) : Int)] ∧ Q (.bl (f p q)) H
theorem op_leUU (hu : X.A.units + 64 < cLine) : OpR X (compareOp .LtE) (rCmpUU X.K leUU) := by
  intro pins s σ H x y v u Q I rx ry h
  obtain ⟨a, b, p, q, rfl, rfl, hp, hq, h⟩ := h
  obtain ⟨as, r1⟩ := Dp.reads I _ _ v (.tup hp (.cons (.int _) (.cons (.int _) .nil))) rx
  obtain ⟨bs, r2⟩ := Dp.reads I _ _ u (.tup hq (.cons (.int _) (.cons (.int _) .nil))) ry
  refine PySem.W.rcLe_alike _ _ X.A s v u as bs r1 r2 rfl (fun z => nomatch z) ?_ X.prog X.w _ _ ⟨.bl _, H, I, rfl, ?_⟩
  · have : min (PyData.tuple [.int (p.1 : Int), .int (p.2 : Int)]).depth (PyData.tuple [.int (q.1 : Int), .int (q.2 : Int)]).depth ≤ 64 := by simp [PyData.depth, PyData.depthAll]
    omega
  · rw [dataLt_uu]; exact h
theorem op_ltUU (hu : X.A.units + 64 < cLine) : OpR X (compareOp .Lt) (rCmpUU X.K ltUU) := by
  intro pins s σ H x y v u Q I rx ry h
  obtain ⟨a, b, p, q, rfl, rfl, hp, hq, h⟩ := h
  refine op_ltD hu pins s σ H _ _ v u Q I rx ry ⟨_, _, .tup hp (.cons (.int _) (.cons (.int _) .nil)), .tup hq (.cons (.int _) (.cons (.int _) .nil)), rfl, (fun z => nomatch z), ?_, ?_⟩
  · simp [PyData.depth, PyData.depthAll]
  · have : PySem.W.dataLt (.tuple [.int (p.1 : Int), .int (p.2 : Int)]) (.tuple [.int (q.1 : Int), .int (q.2 : Int)]) = ltUU p q := by
      unfold ltUU
      rw [← dataLt_uu, Bool.not_not]
    rw [this]; exact h
theorem op_leUUK {K : PySem.W.Frag} (hu : X.A.units + 64 < cLine) (h : X.K = K := by rfl) : OpR X (compareOp .LtE) (rCmpUU K leUU) := by subst h; exact op_leUU hu
theorem op_ltUUK {K : PySem.W.Frag} (hu : X.A.units + 64 < cLine) (h : X.K = K := by rfl) : OpR X (compareOp .Lt) (rCmpUU K ltUU) := by subst h; exact op_ltUU hu
end
section
variable {w : Xw} {σ : L2.St} {F H : Hp} {K : PySem.W.Frag} {ta tb : TE}
theorem e_cmpUU {g : Nat × Nat → Nat × Nat → Bool} {m n : M (Nat × Nat)} (ha : EvC w (ta σ) (fz (rP rNat rNat)) m F H) (hb : EvC w (tb σ) (fz (rP rNat rNat)) n F H) :
    EvC w (tOp (rCmpUU K g) ta tb σ) (fz rB) (m.bd fun x => n.bd fun y => .ok (g x y)) F H :=
  e_op ha hb (fun _ _ => .inl ⟨_, rfl⟩) fun hz h1 h2 s Q q => by
    cases hz
    obtain ⟨a, u1, u2, rfl, e1, p1, p2⟩ := h1
    obtain ⟨b, w1, w2, rfl, e2, q1, q2⟩ := h2
    rw [show u1 = _ from p1, show u2 = _ from p2] at e1
    rw [show w1 = _ from q1, show w2 = _ from q2] at e2
    exact ⟨a, b, _, _, rfl, rfl, SqT.of (s _ _ e1), SqT.of (s _ _ e2), q _ _ _ (Xt.refl s) rfl⟩
end
end SF
/-! ### x in y, y of a class with slots that has __contains__ -/
namespace SF
open PySem PySem.Spec PyProof.Rows L2
theorem slt_same {H1 H2 : Hp} {a C dx : Addr} {vs : List (Option V)} (s : Same H1 H2) (h : SlX.Slt H1 a C dx vs) : SlX.Slt H2 a C dx vs := h.elim (fun ⟨x, y⟩ => .inl ⟨s _ _ x, y⟩) fun ⟨x, y⟩ => .inr ⟨s _ _ x, s _ _ y⟩
def rInSl (C : Addr) (sp : Sp) (E : XK) (neg : Bool) : R2 := fun x y H Q => ∃ a dx fs, y = .ref a ∧ SlX.Slt H a C dx fs ∧ sp [.ref a, x] H (fun z H' => ∃ b, z = .bl b ∧ Q (.bl (neg ^^ b)) H') E
theorem op_inSl {X : Cx} {CX : CXT} {k : Nat} {C f : Addr} {fd : FuncData} {ps : List Str} {sp : Sp} {E : XK} (hm : Meth X.K C "__contains__" f) (F : FnOk X.prog X.w X.K X.mg X.base CX k f fd ps sp) (hr : Room k X.A) (hb : Binds X.K fd ps []) (hx : Passes CX X E) :
    OpR X (compareOp .In) (rInSl C sp E false) := by
  intro pins s σ H x y v u Q I rx ry h
  obtain ⟨a, dx, fs, rfl, ha, q⟩ := h
  cases (show u = Value.ref a from ry)
  obtain ⟨_, _, _, J, _⟩ := SlX.slt_inst I ha
  obtain ⟨m, hF⟩ := I.fr
  refine PySem.W.in_K hF I.ok.mod.kin J hm.at_ hm.fn ?_
  refine wpAny_mono (run_fn (us := [.ref a, v]) (vs := [.ref a, x]) F hr hb .nil hx I (.cons rfl (.cons rx .nil)) q) (fun w' s' z => ?_) fun _ _ x => x
  obtain ⟨z', H', I', rz, b, eb, qz⟩ := z
  subst eb
  cases (show w' = Value.bool b from rz)
  exact truthy_bl ⟨.bl b, H', I', rfl, by simpa using qz⟩
theorem op_ninSl {X : Cx} {CX : CXT} {k : Nat} {C f : Addr} {fd : FuncData} {ps : List Str} {sp : Sp} {E : XK} (hm : Meth X.K C "__contains__" f) (F : FnOk X.prog X.w X.K X.mg X.base CX k f fd ps sp) (hr : Room k X.A) (hb : Binds X.K fd ps []) (hx : Passes CX X E) :
    OpR X (compareOp .NotIn) (rInSl C sp E true) := by
  intro pins s σ H x y v u Q I rx ry h
  obtain ⟨a, dx, fs, rfl, ha, q⟩ := h
  cases (show u = Value.ref a from ry)
  obtain ⟨_, _, _, J, _⟩ := SlX.slt_inst I ha
  obtain ⟨m, hF⟩ := I.fr
  refine PySem.W.notIn_K hF I.ok.mod.kin J hm.at_ hm.fn ?_
  refine wpAny_mono (run_fn (us := [.ref a, v]) (vs := [.ref a, x]) F hr hb .nil hx I (.cons rfl (.cons rx .nil)) q) (fun w' s' z => ?_) fun _ _ x => x
  obtain ⟨z', H', I', rz, b, eb, qz⟩ := z
  subst eb
  cases (show w' = Value.bool b from rz)
  exact truthy_bl ⟨.bl (!b), H', I', rfl, by simpa using qz⟩
section
variable {w : Xw} {σ : L2.St} {F H : Hp} {ta tb : TE}
theorem e_inSl {α β : Type} {r : Rl α} {R : Rl β} [Mono r] [Mono R] {C : Addr} {cl : Nat → Addr} {E' : XK} {f : β → α → M Bool} {m : M α} {n : M β} (hw : ¬ w.on) (hat : ∀ F v x, R F v x → ∃ a dx fs, v = .ref a ∧ SlX.Slt F a C dx fs) (ha : EvC w (ta σ) (fz r) m F H) (hb : EvC w (tb σ) (fz R) n F H) :
    EvC w (tOp (rInSl C (Pm False cl (rac (fz R) (rac (fz r) ran)) (fz rB) (fun x => f x.1 x.2.1)) E' false) ta tb σ) (fz rB) (m.bd fun x => n.bd fun y => f y x) F H := by
  refine EvC.bind (D := fun (v : V) H (Q : VK) => tb σ H fun u H2 => rInSl C (Pm False cl (rac (fz R) (rac (fz r) ran)) (fz rB) (fun x => f x.1 x.2.1)) E' false v u H2 Q) (R' := fz rB) ha fun x v F1 H1 F2 H2 e1 e2 hr => ?_
  refine EvN.bind (D := fun (u : V) H (Q : VK) => rInSl C (Pm False cl (rac (fz R) (rac (fz r) ran)) (fz rB) (fun x => f x.1 x.2.1)) E' false v u H Q) (R' := fz rB) (hb F2 H2 (e1.trans e2)) fun y u F3 H3 e3 hs => ?_
  cases hf : f y x with
  | bad => trivial
  | exc e => exact fun o => absurd o.1 hw
  | ok b =>
    intro Q q
    obtain ⟨a, dx, fs, rfl, h1⟩ := hat _ _ _ hs
    refine ⟨a, dx, fs, rfl, slt_same e3.fh h1, F3, (y, x, ()), e3.fh, ⟨_, _, rfl, hs, _, _, rfl, Mono.mono (r := r) e3.ff hr, rfl⟩, ?_⟩
    show Po _ (f y x)
    rw [hf]
    exact fun v' F' H' e h => ⟨b, h, by rw [Bool.false_xor]; exact q _ _ _ e rfl⟩
theorem e_ninSl {α β : Type} {r : Rl α} {R : Rl β} [Mono r] [Mono R] {C : Addr} {cl : Nat → Addr} {E' : XK} {f : β → α → M Bool} {m : M α} {n : M β} (hw : ¬ w.on) (hat : ∀ F v x, R F v x → ∃ a dx fs, v = .ref a ∧ SlX.Slt F a C dx fs) (ha : EvC w (ta σ) (fz r) m F H) (hb : EvC w (tb σ) (fz R) n F H) :
    EvC w (tOp (rInSl C (Pm False cl (rac (fz R) (rac (fz r) ran)) (fz rB) (fun x => f x.1 x.2.1)) E' true) ta tb σ) (fz rB) (m.bd fun x => n.bd fun y => (f y x).bd fun b => .ok (!b)) F H := by
  refine EvC.bind (D := fun (v : V) H (Q : VK) => tb σ H fun u H2 => rInSl C (Pm False cl (rac (fz R) (rac (fz r) ran)) (fz rB) (fun x => f x.1 x.2.1)) E' true v u H2 Q) (R' := fz rB) ha fun x v F1 H1 F2 H2 e1 e2 hr => ?_
  refine EvN.bind (D := fun (u : V) H (Q : VK) => rInSl C (Pm False cl (rac (fz R) (rac (fz r) ran)) (fz rB) (fun x => f x.1 x.2.1)) E' true v u H Q) (R' := fz rB) (hb F2 H2 (e1.trans e2)) fun y u F3 H3 e3 hs => ?_
  cases hf : f y x with
  | bad => trivial
  | exc e => exact fun o => absurd o.1 hw
  | ok b =>
    intro Q q
    obtain ⟨a, dx, fs, rfl, h1⟩ := hat _ _ _ hs
    refine ⟨a, dx, fs, rfl, slt_same e3.fh h1, F3, (y, x, ()), e3.fh, ⟨_, _, rfl, hs, _, _, rfl, Mono.mono (r := r) e3.ff hr, rfl⟩, ?_⟩
    show Po _ (f y x)
    rw [hf]
    exact fun v' F' H' e h => ⟨b, h, by rw [Bool.true_xor]; exact q _ _ _ e rfl⟩
end
theorem sp_slt {C : Addr} (F : Hp) (v : V) (x : SpD) (h : rSp C F v x) : ∃ a dx fs, v = .ref a ∧ SlX.Slt F a C dx fs := by
  obtain ⟨a, dx, e, h1, h2⟩ := h
  exact ⟨a, dx, _, e, .inr ⟨h1, h2⟩⟩
theorem ft_at {C S : Addr} (F : Hp) (v : V) (x : FtD) (h : rFt C S F v x) : ∃ a dx fs, v = .ref a ∧ F a = some (.ins C dx fs) := by
  obtain ⟨p, dx, _, _, _, _, e, h, _⟩ := h
  exact ⟨p, dx, _, e, h⟩
/-- isinstance(n, C) of an integer -/
theorem e_isiI {α : Type} {R : R3 α} [Up R] [Fl R] [Kd R "int"] {w : Xw} {σ : L2.St} {F H : Hp} {K : PySem.W.Frag} {ta : TE} {C : Addr} {m : M α} (hk : PySem.W.kitOne K (.type "int") (.ref C) = some false) (ha : EvC w (ta σ) R m F H) : EvC w (tCB (rIsi K) (tCons ta (tCons (tC (.ref C)) tNil)) σ) (fz rB) (m.bd fun _ => .ok false) F H :=
  EvC.last (D := fun (v : V) H (Q : VK) => rIsi K [v, .ref C] H Q) (R' := fz rB) ha (fun _ => .inl ⟨_, rfl⟩) fun x y v F1 H1 F2 H2 hz e1 e2 hr Q q => by
    cases hz
    exact ⟨_, _, _, .ref C, false, rfl, ClsV.own C, Kd.kd e2.fh hr, hk, q _ _ _ (Xt.refl e2.fh) rfl⟩
/-- isinstance(x, C) of an instance of C -/
theorem e_isiO {α : Type} {R : Rl α} {w : Xw} {σ : L2.St} {F H : Hp} {K : PySem.W.Frag} {ta : TE} {C : Addr} {m : M α} (hc : Cls K C) (hi : SlX.SIsi K C) (hat : ∀ F v x, R F v x → ∃ a dx fs, v = .ref a ∧ F a = some (.ins C dx fs)) (ha : EvC w (ta σ) (fz R) m F H) : EvC w (tCB (rIsi K) (tCons ta (tCons (tC (.ref C)) tNil)) σ) (fz rB) (m.bd fun _ => .ok true) F H :=
  EvC.last (D := fun (v : V) H (Q : VK) => rIsi K [v, .ref C] H Q) (R' := fz rB) ha (fun _ => .inl ⟨_, rfl⟩) fun x y v F1 H1 F2 H2 hz e1 e2 hr Q q => by
    cases hz
    obtain ⟨a, dx, fs, rfl, h1⟩ := hat _ _ _ hr
    refine ⟨_, _, .ref C, .ref C, true, rfl, ClsV.own C, .base (.ins (e2.fh _ _ h1) hc hi.ca hi.cn hi.ct hi.cm), ?_, q _ _ _ (Xt.refl e2.fh) rfl⟩
    unfold PySem.W.kitOne
    rw [if_pos (beq_self_eq_true _)]
/-- a walk over numbers as integers -/
theorem iw_int {w : Xw} {σ : L2.St} {F H : Hp} {wi : TI} {m : M (List Nat)} (h : EvC w (wi σ) (iwF rNat) m F H) : EvC w (wi σ) (iwF rI) (m.bd fun x => .ok (x.map fun n => ((n : Nat) : Int))) F H := fun F1 H1 e1 => by
  have h1 := h F1 H1 e1
  cases m with
  | bad => trivial
  | exc e => exact h1
  | ok xs =>
    refine fun Q q => h1 Q fun J F2 H2 e2 hw => q J F2 H2 e2 ?_
    obtain ⟨⟨G, Y, w1, w2, w3⟩, hz⟩ := hw
    refine ⟨⟨G, Y, by rw [List.length_map]; exact w1, w2, fun i H' v H'' F' hi s1 s2 hy => ?_⟩, by rw [List.length_map]; exact hz⟩
    rw [List.length_map] at hi
    obtain ⟨F'', x, hx, hxt, hr⟩ := w3 i H' v H'' F' hi s1 s2 hy
    exact ⟨F'', ((x : Nat) : Int), by rw [List.getElem?_map, hx]; rfl, hxt, hr⟩
end SF
/-! ### x == y, x < y, x <= y of two instances of a class with slots, by its own def -/
namespace SF
open PySem PySem.Spec PyProof.Rows L2
def rCmpSl (C : Addr) (sp : Sp) (E : XK) : R2 := fun x y H Q => ∃ a dx vs b dy ws, x = .ref a ∧ y = .ref b ∧ SlX.Slt H a C dx vs ∧ SlX.Slt H b C dy ws ∧ sp [x, y] H Q E
theorem op_cmpSl {X : Cx} {CX : CXT} {k : Nat} {C f : Addr} {fd : FuncData} {ps : List Str} {sp : Sp} {E : XK} {op : CmpOp} {nm : Str} (hop : ∀ a b, compareOp op a b = richCompare op a b) (hn : (cmpInfo op).2.1 = nm) (hm : Meth X.K C nm f) (F : FnOk X.prog X.w X.K X.mg X.base CX k f fd ps sp) (hr : Room k X.A) (hb : Binds X.K fd ps []) (hx : Passes CX X E) :
    OpR X (compareOp op) (rCmpSl C sp E) := by
  subst hn
  intro pins s σ H x y v u Q I rx ry h
  obtain ⟨a, dx, vs, b, dy, ws, rfl, rfl, ha, hb2, q⟩ := h
  cases (show v = Value.ref a from rx)
  cases (show u = Value.ref b from ry)
  obtain ⟨_, _, _, J, _⟩ := SlX.slt_inst I ha
  obtain ⟨_, _, _, J', _⟩ := SlX.slt_inst I hb2
  obtain ⟨m, hF⟩ := I.fr
  rw [hop]
  refine PySem.W.cmp_K (op := op) (tb := .ref C) hr.units0 hF I.ok.mod.kin J J'.type (by simp [PySem.W.notFirst]) hm.at_ hm.fn ?_
  refine wpAny_mono (run_fn (us := [.ref a, .ref b]) (vs := [.ref a, .ref b]) F hr hb .nil hx I (.cons rfl (.cons rfl .nil)) q) (fun w' s' z => ?_) fun _ _ x => x
  obtain ⟨z', H', I', rz, qz⟩ := z
  exact SlX.cmpback rz ⟨z', H', I', rz, qz⟩
section
variable {w : Xw} {σ : L2.St} {F H : Hp} {ta tb : TE}
theorem e_cmpSl {α : Type} {R : Rl α} [Mono R] {C : Addr} {cl : Nat → Addr} {E' : XK} {f : α → α → M Bool} {m n : M α} (hw : ¬ w.on) (hat : ∀ F v x, R F v x → ∃ a dx fs, v = .ref a ∧ SlX.Slt F a C dx fs) (ha : EvC w (ta σ) (fz R) m F H) (hb : EvC w (tb σ) (fz R) n F H) :
    EvC w (tOp (rCmpSl C (Pm False cl (rac (fz R) (rac (fz R) ran)) (fz rB) (fun x => f x.1 x.2.1)) E') ta tb σ) (fz rB) (m.bd fun x => n.bd fun y => f x y) F H := by
  refine EvC.bind (D := fun (v : V) H (Q : VK) => tb σ H fun u H2 => rCmpSl C (Pm False cl (rac (fz R) (rac (fz R) ran)) (fz rB) (fun x => f x.1 x.2.1)) E' v u H2 Q) (R' := fz rB) ha fun x v F1 H1 F2 H2 e1 e2 hr => ?_
  refine EvN.bind (D := fun (u : V) H (Q : VK) => rCmpSl C (Pm False cl (rac (fz R) (rac (fz R) ran)) (fz rB) (fun x => f x.1 x.2.1)) E' v u H Q) (R' := fz rB) (hb F2 H2 (e1.trans e2)) fun y u F3 H3 e3 hs => ?_
  cases hf : f x y with
  | bad => trivial
  | exc e => exact fun o => absurd o.1 hw
  | ok b =>
    intro Q q
    have hr3 := Mono.mono (r := R) e3.ff hr
    obtain ⟨a, dx, fs, rfl, h1⟩ := hat _ _ _ hr3
    obtain ⟨b', dy, gs, rfl, h2⟩ := hat _ _ _ hs
    refine ⟨a, dx, fs, b', dy, gs, rfl, rfl, slt_same e3.fh h1, slt_same e3.fh h2, F3, (x, y, ()), e3.fh, ⟨_, _, rfl, hr3, _, _, rfl, hs, rfl⟩, ?_⟩
    show Po _ (f x y)
    rw [hf]
    exact fun v' F' H' e h => q _ _ _ e h
end
end SF

/-! ### a power of two numbers that are written out -/
namespace SF
open PySem PySem.Spec PyProof.Rows L2
section
variable {w : Xw} {σ : L2.St} {F H : Hp}
theorem e_powC {i j k : Nat} (hk : k = i ^ j) (hj : j ≤ 1000) (hi : i ≤ 1000) : EvC w (tOp (L2.rI CPow fun i j => .int (i ^ j.toNat)) (tC (.int (i : Int))) (tC (.int (j : Int))) σ) (fz rNat) (.ok k) F H := fun F1 H1 e1 Q q => by
  refine ⟨(i : Int), (j : Int), rfl, rfl, ⟨by omega, by omega, by
    have : (1000 : Nat) < 2 ^ 64 := by decide
    show ((i : Int)).natAbs < 2 ^ 64
    rw [Int.natAbs_natCast]
    omega⟩, q _ F1 H1 (Xt.refl e1.fh) ?_⟩
  show V.int _ = V.int _
  rw [Int.toNat_natCast, hk, Int.natCast_pow]
end
end SF
/-! ### isinstance of a caught error that has fields -/
namespace SF
open PySem PySem.Spec PyProof.Rows L2
section
open PySem.W PySem.Calls
variable {prog : Program} {w : World} {A : Around} {E : Value → Shared → Prop} {s : Shared} {K : Frag} {x D : Addr} {ox od : Obj}
theorem findObj_dataD {C : Addr} {od : Option Obj} {name : Str} {a g : Value} (hc : (clsIn K C).isSome = true) (ha : findIn K (.ref C) name = some (some a)) (hg : specialIn K a "__get__" = some (some g)) (ht : takesIn K a = some true) : findObj K C od name = some (.bind g a) := by
  obtain ⟨cd, hc⟩ := Option.isSome_iff_exists.mp hc
  unfold findObj
  rw [hc, Option.bind_some, ha, Option.bind_some]
  simp [hg, ht]
theorem kin_classD {Q : Option Value → Shared → Prop} (hga : findIn K (.ref D) "__getattribute__" = some (some (.builtin "BaseException.__getattribute__"))) (hgt : findIn K (.ref D) "__getattr__" = some none) (hsub : subIn K (.ref D) (.type "BaseException") = some true)
    (hdct : hasDictIn K D = true) (ha : findIn K (.ref D) "__class__" = some (some (.builtin "object.__class__")))
    (hn : specialIn K (.builtin "object.__class__") "__get__" = some (some (.builtin "getset_descriptor.__get__"))) (htk : takesIn K (.builtin "object.__class__") = some true) (hm : mroIn K D (.type "object") = some true)
    (X : K.In s.heap) (I : InstAt s.heap x ox D (some od)) (h : Q (some (.ref D)) { s with toks := s.toks + 1 }) : wpAny (model prog w) A (getAttr? (.ref x) "__class__") Q E s := by
  have hf : findObj K D (some od) "__class__" = some (.bind (.builtin "getset_descriptor.__get__") (.builtin "object.__class__")) := findObj_dataD (by obtain ⟨cd, hc, _⟩ := any_some hdct; rw [hc]; rfl) ha hn htk
  obtain ⟨hp, g, d, t, os⟩ := s
  have L0 := I.type (M := model prog w)
  have L1 := looks_findIn (M := model prog w) X hga
  have L2 := looks_findIn (M := model prog w) X hgt
  have L3 := looks_find (M := model prog w) X I hf
  have sub : Looks (model prog w) hp (isInstance (.ref x) (.type "BaseException")) true := L0.andThen (looks_subIn X hsub)
  have hx0 : (false && onTheHeap (Value.builtin "BaseException.__getattribute__")) = false := rfl
  have hx2 : (Value.builtin "BaseException.__getattribute__" == Value.builtin "object.__getattribute__") = false := by decide +kernel
  have hx1 : (onTheHeap (Value.ref D) && Value.builtin "BaseException.__getattribute__" == Value.builtin "object.__getattribute__") = false := by rw [hx2]; rfl
  unfold getAttr? getAttrBy? getAttrBy
  refine wpAny_bind (wpAny_mkText (wpAny_bind (wpAny_attempt (wpAny_holding (wpAny_bind (L0.at (wpAny_bind (L1.at ?_))))))))
  show wpAny _ _ (if (onTheHeap (Value.ref D) && Value.builtin "BaseException.__getattribute__" == Value.builtin "object.__getattribute__") = true then _ else _) _ _ _
  rw [hx1, if_neg Bool.false_ne_true]
  unfold getAttrByItsOwn hookBefore
  refine wpAny_bind ?_
  rw [if_pos (show onTheHeap (Value.ref D) = true from rfl)]
  refine L2.at ?_
  refine wpAny_bind (wpAny_attempt (wpAny_holding ?_))
  unfold callGetattribute
  rw [hx0, if_neg Bool.false_ne_true]
  unfold boundAndCalled
  rw [PySem.F.excAttr_ValueError.ga.bind (.ref x)]
  refine wpAny_bind (wpAny_pure ?_)
  show wpAny _ _ (call (.builtin "BaseException.__getattribute__") [.ref x, .str "__class__" t]) _ _ _
  refine wpAny_call (codeAny_call_builtin PySem.F.excAttr_ValueError.ga.plain PySem.F.entry_bexc_ga ?_)
  refine @check_slot (model prog w) _ _ ⟨hp, g, d, t + 1, os⟩ "BaseException.__getattribute__" "BaseException" "__getattribute__" (.ref x) [.str "__class__" t] [] _ (by decide +kernel) (by decide +kernel) sub (PySem.F.args_bexc_ga (.ref x) (.str "__class__" t)) ?_
  unfold Builtin.«object.__getattribute__»
  refine wpAny_bind (wpAny_of_eq (a := ((Value.ref x : Value), [Value.str "__class__" t])) (by first | rfl | (simp only [slotArgs]; rfl)) ?_)
  refine wpAny_bind (wpAny_pure (wpAny_bind (L0.at (wpAny_bind (L3.at ?_)))))
  show wpAny _ _ (holding [Value.builtin "object.__class__"] (call (.builtin "getset_descriptor.__get__") [.builtin "object.__class__", .ref x, .ref D]) >>= ret) _ _ _
  refine wpAny_bind (wpAny_holding (wpAny_call (class_get (s := ⟨hp, g, d, t + 1, os⟩) (ox := ox) (od := some od) X I hm ?_)))
  refine wpAny_pure ?_
  show wpAny _ _ (handedOut (.ref D)) _ _ _
  rw [handedOut_of (v := .ref D) rfl]
  first
    | exact wpAny_pure (wpAny_pure h)
    | exact wpAny_pure h
    | exact wpAny_pure (wpAny_bind (wpAny_pure (wpAny_pure h)))
theorem kitx_excD (hga : findIn K (.ref D) "__getattribute__" = some (some (.builtin "BaseException.__getattribute__"))) (hgt : findIn K (.ref D) "__getattr__" = some none) (hsub : subIn K (.ref D) (.type "BaseException") = some true) (hdct : hasDictIn K D = true) (ha : findIn K (.ref D) "__class__" = some (some (.builtin "object.__class__")))
    (hn : specialIn K (.builtin "object.__class__") "__get__" = some (some (.builtin "getset_descriptor.__get__"))) (htk : takesIn K (.builtin "object.__class__") = some true) (hm : mroIn K D (.type "object") = some true) :
    KitX K (.ref x) (.ref D) (fun h => InstAt h x ox D (some od)) where
  ty := fun _ _ _ I => I.type
  it := fun _ _ X _ => by
    obtain ⟨cdD, hcD, _⟩ := any_some hdct
    unfold clsIn at hcD
    split at hcD
    · rename_i c' d' cd' sl' ho
      intro A' Q' E' s' k q
      unfold isType loadHead
      exact wpAny_bind (wpAny_loadPart (k _ _ (X _ _ ho)) (wpAny_pure q))
    · cases hcD
  ne := fun h tp dd its n sl X htp => by
    obtain ⟨cdD, hcD, _⟩ := any_some hdct
    refine Bool.eq_false_iff.mpr fun q => ?_
    have e : D = tp := Value.ref.inj (beq_iff_eq.mp q)
    subst e
    unfold clsIn at hcD
    split at hcD
    · rename_i c' d' cd' sl' ho
      have z := (X _ _ ho).symm.trans htp
      cases z
    · cases hcD
  ca := fun X I k => kin_classD hga hgt hsub hdct ha hn htk hm X I k
end
/-- isinstance(e, c), e the exception that the suite holds, d its dict -/
def rIsED (K : PySem.W.Frag) (cls : Value) (d : Option Addr) (a : Addr) : List V → Hp → VK → Prop := fun xs H Q => ∃ (D dd : Addr) (fs : List (Str × V)) (c : V) (cv : Value) (b : Bool), cls = .ref D ∧ d = some dd ∧ H dd = some (.xd fs) ∧ ExcC K D ∧ xs = [.ref a, c] ∧ (∀ u, RelV c u → u = cv) ∧ PySem.W.kitOne K (.ref D) cv = some b ∧ Q (.bl b) H
theorem call_isED {X : Cx} {a : Addr} {cls : Value} {d : Option Addr} {oe : Obj} {pn : List (Addr × Obj)} (hz : Zc cls d oe) (hf : ∃ vs, oe.data = .fields vs) : CallR (X.suite a ((a, oe) :: pn)) (.builtin "isinstance") (rIsED X.K cls d a) := by
  intro pins s σ H xs us Q I r h
  obtain ⟨D, dd, fs, c, cv, b, rfl, rfl, hd, C, rfl, hcv, e, q⟩ := h
  cases r with
  | cons rx rr =>
    cases rr with
    | cons rt rr =>
      cases rr
      cases rx
      have ec := hcv _ rt
      subst ec
      obtain ⟨hget, _⟩ := I.pin (a, oe) (List.mem_append.mpr (.inl List.mem_cons_self))
      obtain ⟨vs, hv⟩ := hf
      have hx : ObjOk X.prog X.w H s.heap dd (.xd fs) := I.hok dd _ hd
      obtain ⟨mA, hns, hr⟩ := hx
      obtain ⟨od, ho, hl⟩ := lookIn_ns hns
      have J : PySem.W.InstAt s.heap a oe D (some od) := ⟨hget, hz.1, by unfold PySem.W.notCls; rw [hv] <;> rfl, by rw [hz.2]; exact ho⟩
      exact PySem.W.kia_one (kitx_excD C.hg C.hk C.hs C.hd C.ha C.hn C.ht C.hm) I.kIn J e (fun z => nomatch z) fun tk => ⟨.bl b, H, I.kept (t' := tk) fun _ _ z => z, rfl, q⟩
theorem call_isEDK {X : Cx} {K : PySem.W.Frag} {a : Addr} {cls : Value} {d : Option Addr} {oe : Obj} {pn : List (Addr × Obj)} (hz : Zc cls d oe) (hf : ∃ vs, oe.data = .fields vs) (h : X.K = K := by rfl) : CallR (X.suite a ((a, oe) :: pn)) (.builtin "isinstance") (rIsED K cls d a) := by subst h; exact call_isED hz hf
def excB (K : PySem.W.Frag) (C : Addr) : Bool := xfB K C && (He.eqO (PySem.W.findIn K (.ref C) "__class__") (some (some (.builtin "object.__class__"))) && (He.eqO (PySem.W.specialIn K (.builtin "object.__class__") "__get__") (some (some (.builtin "getset_descriptor.__get__"))) &&
  (decide (PySem.W.takesIn K (.builtin "object.__class__") = some true) && decide (PySem.W.mroIn K C (.type "object") = some true))))
theorem excB_ok {K : PySem.W.Frag} {C : Addr} (h : excB K C = true) : ExcC K C := by
  obtain ⟨h0, h⟩ := He.ba h
  obtain ⟨h1, h⟩ := He.ba h
  obtain ⟨h2, h⟩ := He.ba h
  obtain ⟨h3, h4⟩ := He.ba h
  have x := xfB_ok h0
  exact ⟨x.ga, x.gg, x.exC, x.hdC, He.eqO_ok h1, He.eqO_ok h2, of_decide_eq_true h3, of_decide_eq_true h4⟩
def kitB (K : PySem.W.Frag) (x y : Str) (b : Bool) : Bool := decide (PySem.W.kitOne K (.ref (He.ga K x)) (.ref (He.ga K y)) = some b)
theorem kitB_ok {K : PySem.W.Frag} {x y : Str} {b : Bool} (h : kitB K x y b = true) : PySem.W.kitOne K (.ref (He.ga K x)) (.ref (He.ga K y)) = some b := of_decide_eq_true h
def kitVB (K : PySem.W.Frag) (x : Str) (y : String) (b : Bool) : Bool := decide (PySem.W.kitOne K (.ref (He.ga K x)) (.type y) = some b)
theorem kitVB_ok {K : PySem.W.Frag} {x : Str} {y : String} {b : Bool} (h : kitVB K x y b = true) : PySem.W.kitOne K (.ref (He.ga K x)) (.type y) = some b := of_decide_eq_true h
section
variable {w : Xw} {σ : L2.St} {F H : Hp} {K : PySem.W.Frag} {a D : Addr} {d : Option Addr} {i : Nat} {e : Ex} {b : Bool}
theorem e_isED {c : V} {cv : Value} (C : ExcC K D) (hc : ∀ u, RelV c u → u = cv) (hk : PySem.W.kitOne K (.ref D) cv = some b) (h : exD e d H) (hs : σ[i]? = some (some (.ref a))) :
    EvC w (tCB (rIsED K (.ref D) d a) (tCons (tVar i) (tCons (tC c) tNil)) σ) (fz rB) (M.gd (e.fs.isEmpty = false) (.ok b)) F H := fun F1 H1 e1 => by
  show EvN w _ _ (M.gd _ _) F1 H1
  unfold M.gd
  split
  case isFalse => trivial
  rename_i hk2
  intro Q q
  rcases h with ⟨dx, rfl, h2⟩ | ⟨_, h2⟩
  · exact ⟨_, hs, D, dx, e.vs, c, cv, b, rfl, rfl, e1.hh _ _ h2, C, rfl, hc, hk, q _ _ _ (Xt.refl e1.fh) rfl⟩
  · rw [h2] at hk2; cases hk2
end
/-! isinstance(e, (c1, c2)) -/
def rIsEDT (K : PySem.W.Frag) (cls : Value) (d : Option Addr) (a : Addr) : List V → Hp → VK → Prop := fun xs H Q => ∃ (D dd tp : Addr) (fs : List (Str × V)) (c1 c2 : V) (cv1 cv2 : Value) (b : Bool), cls = .ref D ∧ d = some dd ∧ H dd = some (.xd fs) ∧ ExcC K D ∧ xs = [.ref a, .ref tp] ∧ H tp = some (.tup [c1, c2]) ∧ (∀ u, RelV c1 u → u = cv1) ∧ (∀ u, RelV c2 u → u = cv2) ∧ PySem.W.kitAny K (.ref D) [cv1, cv2] = some b ∧ Q (.bl b) H
theorem kitAny2 {K : PySem.W.Frag} {t c1 c2 : Value} {b1 b2 : Bool} (h1 : PySem.W.kitOne K t c1 = some b1) (h2 : PySem.W.kitOne K t c2 = some b2) : PySem.W.kitAny K t [c1, c2] = some (b1 || b2) := by
  unfold PySem.W.kitAny
  rw [h1]
  cases b1 with
  | true => rfl
  | false =>
    show PySem.W.kitAny K t [c2] = some b2
    unfold PySem.W.kitAny
    rw [h2]
    cases b2 <;> rfl
theorem call_isEDT {X : Cx} {a : Addr} {cls : Value} {d : Option Addr} {oe : Obj} {pn : List (Addr × Obj)} (hz : Zc cls d oe) (hf : ∃ vs, oe.data = .fields vs) : CallR (X.suite a ((a, oe) :: pn)) (.builtin "isinstance") (rIsEDT X.K cls d a) := by
  intro pins s σ H xs us Q I r h
  obtain ⟨D, dd, tp, fs, c1, c2, cv1, cv2, b, rfl, rfl, hd, C, rfl, ht, hc1, hc2, e, q⟩ := h
  cases r with
  | cons rx rr =>
    cases rr with
    | cons rt rr =>
      cases rr
      cases rx
      cases rt
      obtain ⟨_, its, rv, ⟨⟨oc, od2, odt, osl⟩, hget2, hcls, n, hd2⟩⟩ := I.hok tp _ ht
      have hcls : oc = _ := hcls
      have hd2 : odt = _ := hd2
      subst hcls hd2
      cases rv with
      | cons r1 rr =>
        cases rr with
        | cons r2 rr =>
          cases rr
          have e1 := hc1 _ r1
          have e2 := hc2 _ r2
          subst e1 e2
          obtain ⟨hget, _⟩ := I.pin (a, oe) (List.mem_append.mpr (.inl List.mem_cons_self))
          obtain ⟨vs, hv⟩ := hf
          have hx : ObjOk X.prog X.w H s.heap dd (.xd fs) := I.hok dd _ hd
          obtain ⟨mA, hns, hr⟩ := hx
          obtain ⟨od, ho, hl⟩ := lookIn_ns hns
          have J : PySem.W.InstAt s.heap a oe D (some od) := ⟨hget, hz.1, by unfold PySem.W.notCls; rw [hv] <;> rfl, by rw [hz.2]; exact ho⟩
          exact PySem.W.kia_tup (kitx_excD C.hg C.hk C.hs C.hd C.ha C.hn C.ht C.hm) I.kIn J hget2 e (fun z => nomatch z) fun tk => ⟨.bl b, H, I.kept (t' := tk) fun _ _ z => z, rfl, q⟩
theorem call_isEDTK {X : Cx} {K : PySem.W.Frag} {a : Addr} {cls : Value} {d : Option Addr} {oe : Obj} {pn : List (Addr × Obj)} (hz : Zc cls d oe) (hf : ∃ vs, oe.data = .fields vs) (h : X.K = K := by rfl) : CallR (X.suite a ((a, oe) :: pn)) (.builtin "isinstance") (rIsEDT K cls d a) := by subst h; exact call_isEDT hz hf
section
variable {w : Xw} {σ : L2.St} {F H : Hp} {K : PySem.W.Frag} {a D : Addr} {d : Option Addr} {i : Nat} {e : Ex} {b1 b2 : Bool}
theorem e_isEDT {c1 c2 : V} {cv1 cv2 : Value} (C : ExcC K D) (hc1 : ∀ u, RelV c1 u → u = cv1) (hc2 : ∀ u, RelV c2 u → u = cv2) (h1 : PySem.W.kitOne K (.ref D) cv1 = some b1) (h2 : PySem.W.kitOne K (.ref D) cv2 = some b2) (h : exD e d H) (hs : σ[i]? = some (some (.ref a))) :
    EvC w (tCB (rIsEDT K (.ref D) d a) (tCons (tVar i) (tCons (tTup (tCons (tC c1) (tCons (tC c2) tNil))) tNil)) σ) (fz rB) (M.gd (e.fs.isEmpty = false) (.ok (b1 || b2))) F H := fun F1 H1 e1 => by
  show EvN w _ _ (M.gd _ _) F1 H1
  unfold M.gd
  split
  case isFalse => trivial
  rename_i hk2
  intro Q q
  rcases h with ⟨dx, rfl, hx⟩ | ⟨_, hx⟩
  · refine ⟨_, hs, by show 2 ≤ sizeLine; rw [sl64]; omega, fun p hp => ?_⟩
    have e2 := (Xt.refl e1.fh).newM hp (o := .tup [c1, c2])
    exact ⟨D, dx, p, e.vs, c1, c2, cv1, cv2, b1 || b2, rfl, rfl, e2.hh _ _ (e1.hh _ _ hx), C, rfl, upd_same, hc1, hc2, kitAny2 h1 h2, q _ _ _ e2 rfl⟩
  · rw [hx] at hk2; cases hk2
end
end SF
/-! ### raise X(..) from Y(..), both of own classes -/
namespace SF
open PySem PySem.Spec PyProof.Rows L2 HotX
/-- the heap behind «from», b the cause -/
def causeFrom (h : Heap) (a b : Addr) : Heap := (h.update a (Obj.mapFields (·.setIfInBounds 3 (.ref b)))).update a (Obj.mapFields (·.setIfInBounds 4 (.bool true)))
theorem causeFrom_at {h : Heap} {a b : Addr} {oe : Obj} {vs : Array Value} (ha : h.get? a = some oe) (hd : oe.data = .fields vs) :
    (causeFrom h a b).get? a = some ((oe.mapFields (·.setIfInBounds 3 (.ref b))).mapFields (·.setIfInBounds 4 (.bool true))) ∧ ((oe.mapFields (·.setIfInBounds 3 (.ref b))).mapFields (·.setIfInBounds 4 (.bool true))).data = .fields ((vs.setIfInBounds 3 (.ref b)).setIfInBounds 4 (.bool true)) := by
  have hd3 := Obj.data_mapFields hd (·.setIfInBounds 3 (.ref b))
  have ha3 := Heap.get?_update_self (Obj.mapFields (·.setIfInBounds 3 (.ref b))) ha (Obj.isFreed_of_fields hd3)
  have hd4 := Obj.data_mapFields hd3 (·.setIfInBounds 4 (.bool true))
  exact ⟨Heap.get?_update_self (Obj.mapFields (·.setIfInBounds 4 (.bool true))) ha3 (Obj.isFreed_of_fields hd4), hd4⟩
theorem causeFrom_other {h : Heap} {a b c : Addr} (hne : a ≠ c) : (causeFrom h a b).get? c = h.get? c := by
  unfold causeFrom
  rw [Heap.get?_update_other _ _ hne, Heap.get?_update_other _ _ hne]
theorem raise_from {prog : Program} {w : World} {A : Around} {E : Value → Shared → Prop} {env : Env} {s : Shared} {x c : Sem Value} {Q : Flow → Shared → Prop} (hh : A.handled = none)
    (h : wpAny (model prog w) A x (fun v s₁ => ∃ a, v = .ref a ∧ wpAny (model prog w) A c (fun v2 s₂ => ∃ b oe vs cls ob vb cb, v2 = .ref b ∧ s₂.heap.get? a = some oe ∧ oe.cls = cls ∧ oe.data = .fields vs ∧ vs[1]? = some .none ∧ 4 < vs.size ∧
      s₂.heap.get? b = some ob ∧ ob.cls = cb ∧ ob.data = .fields vb ∧
      PySem.W.Looks (model prog w) s₂.heap (isSubtype cls (.type "BaseException")) true ∧ PySem.W.Looks (model prog w) s₂.heap (isSubtype cb (.type "BaseException")) true ∧ PySem.W.Looks (model prog w) (causeFrom s₂.heap a b) (typeOf cls) (.type "type") ∧
      E (.ref a) { s₂ with heap := causeFrom s₂.heap a b }) E s₁) E s) :
    wpAny (model prog w) A (raiseStmt env (some x) (some c)) Q E s := by
  unfold raiseStmt
  dsimp only
  refine wpAny_bind (wpAny_mono h (fun v s₀ h₀ => ?_) fun _ _ x => x)
  obtain ⟨a, rfl, h₀⟩ := h₀
  refine wpAny_bind (wpAny_holding (wpAny_mono h₀ (fun v2 s₁ h₁ => ?_) fun _ _ x => x))
  obtain ⟨b, oe, vs, cls, ob, vb, cb, rfl, ha, hcls, hd, h1, hi, hb, hcb, hdb, L1, L2, L3, hE⟩ := h₁
  have LT : PySem.W.Looks (model prog w) s₁.heap (typeOf (.ref a)) cls := fun A Q E s k q => wpAny_typeOf_ref (k _ _ ha) (by rw [hcls]; exact q)
  have LI : PySem.W.Looks (model prog w) s₁.heap (isInstance (.ref a) (.type "BaseException")) true := LT.andThen L1
  have LTb : PySem.W.Looks (model prog w) s₁.heap (typeOf (.ref b)) cb := fun A Q E s k q => wpAny_typeOf_ref (k _ _ hb) (by rw [hcb]; exact q)
  have LIb : PySem.W.Looks (model prog w) s₁.heap (isInstance (.ref b) (.type "BaseException")) true := LTb.andThen L2
  have hnt : ∀ {Q' : Bool → Shared → Prop}, Q' false s₁ → wpAny (model prog w) A (isType (.ref a)) Q' E s₁ := by
    intro Q' hq
    simp only [isType, loadHead]
    refine wpAny_bind (wpAny_loadPart ha ?_)
    rw [hd]; exact wpAny_pure hq
  have hntb : ∀ {Q' : Bool → Shared → Prop}, Q' false s₁ → wpAny (model prog w) A (isType (.ref b)) Q' E s₁ := by
    intro Q' hq
    simp only [isType, loadHead]
    refine wpAny_bind (wpAny_loadPart hb ?_)
    rw [hdb]; exact wpAny_pure hq
  have hd3 := Obj.data_mapFields hd (·.setIfInBounds 3 (.ref b))
  have ha3 := Heap.get?_update_self (Obj.mapFields (·.setIfInBounds 3 (.ref b))) ha (Obj.isFreed_of_fields hd3)
  obtain ⟨ha4, hd4⟩ := causeFrom_at (b := b) ha hd
  have s3 : 3 < vs.size := by omega
  have s4 : 4 < (vs.setIfInBounds 3 (Value.ref b)).size := by rw [set_size]; exact hi
  have h14 : ((vs.setIfInBounds 3 (Value.ref b)).setIfInBounds 4 (Value.bool true))[1]? = some Value.none := set_other (by decide) (set_other (by decide) h1)
  have hcls4 : ((oe.mapFields (·.setIfInBounds 3 (.ref b))).mapFields (·.setIfInBounds 4 (.bool true))).cls = cls := by rw [Obj.cls_mapFields, Obj.cls_mapFields]; exact hcls
  have LT4 : PySem.W.Looks (model prog w) (causeFrom s₁.heap a b) (typeOf (.ref a)) cls := fun A Q E s k q => wpAny_typeOf_ref (k _ _ ha4) (by rw [hcls4]; exact q)
  have hnt4 : ∀ {Q' : Bool → Shared → Prop}, Q' false { s₁ with heap := causeFrom s₁.heap a b } → wpAny (model prog w) A (isType (.ref a)) Q' E { s₁ with heap := causeFrom s₁.heap a b } := by
    intro Q' hq
    simp only [isType, loadHead]
    refine wpAny_bind (wpAny_loadPart ha4 ?_)
    rw [hd4]; exact wpAny_pure hq
  have rest : wpAny (model prog w) A (do
      let b ← isType (.ref a)
      if b = true then do
        let e ← holding [.ref a] (raisedFor (.ref a) (.ref a))
        setFlight e none
        raiseNew e
      else do
        let e ← raisedInstance (.ref a)
        setFlight e none
        raiseNew e : Sem Flow) Q E { s₁ with heap := causeFrom s₁.heap a b } := by
    refine wpAny_bind (hnt4 ?_)
    simp only [Bool.false_eq_true, if_false]
    unfold raisedInstance
    refine wpAny_bind (wpAny_bind (LT4.here (wpAny_bind (L3.here ?_))))
    rw [if_pos (beq_self_eq_true _)]
    refine wpAny_pure ?_
    unfold setFlight raiseNew
    refine wpAny_bind (wpAny_bind (wpAny_field ha4 hd4 h14 ?_))
    rw [if_neg (by decide)]
    refine wpAny_pure (wpAny_bind (wpAny_handled ?_))
    rw [hh]
    first
      | exact wpAny_throw hE
      | exact wpAny_bind (wpAny_pure (wpAny_throw hE))
  refine wpAny_bind (wpAny_pure ?_)
  dsimp only
  refine wpAny_bind (wpAny_holding ?_)
  unfold excFromValue isExcClass
  refine wpAny_bind (wpAny_bind (hnt ?_))
  simp only [Bool.false_eq_true, if_false]
  refine wpAny_pure ?_
  simp only [Bool.false_eq_true, if_false]
  refine wpAny_bind (LI.here ?_)
  simp only [if_true]
  refine wpAny_pure ?_
  have hne : (Value.ref b == Value.none) = false := rfl
  first
  | rw [if_neg (show ¬ (Value.ref b == Value.none) = true from by rw [hne]; decide)]
  | simp only [hne, Bool.false_eq_true, if_false]
  refine wpAny_bind (wpAny_holding ?_)
  refine wpAny_bind (wpAny_bind (hntb ?_))
  simp only [Bool.false_eq_true, if_false]
  refine wpAny_pure ?_
  simp only [Bool.false_eq_true, if_false]
  refine wpAny_bind (LIb.here ?_)
  simp only [if_true]
  refine wpAny_pure ?_
  refine wpAny_bind (wpAny_setField ha hd s3 (wpAny_bind (wpAny_setField ha3 hd3 s4 ?_)))
  exact rest
/-! an own error made: what stands there, exactly -/
def ExAt (h : Heap) (a C d : Addr) : Prop := ∃ t0 : Addr, h.get? a = some ({ cls := .ref C, dict := some d, data := .fields #[.ref t0, .none, .none, .none, .bool false, .none] } : Obj)
def MkX (X : L2.Cx) (pins : List (Addr × Obj)) (σ : L2.St) (C : Addr) (Q : XK) (u : Value) (s' : Shared) : Prop :=
  ∃ (a d : Addr) (G : Heap) (H' : Hp), u = .ref a ∧ Inv X pins σ H' { s' with heap := G } ∧ (∀ b o, G.get? b = some o → s'.heap.get? b = some o) ∧ G.get? a = none ∧ H' a = none ∧ ExAt s'.heap a C d ∧ Q (.ref C) (some d) H'
section
variable {X : L2.Cx} {e : Expr} {es : List Expr} {ta tb : TA} {p pos : Pos}
theorem pmx_oex {CX : CXT} {x : Str} {C fI : Addr} {k : Nat} {fd : FuncData} {ps : List Str} {sp : Sp} {ds : List Value} {dvs : List V} (T : OexC X.K C) (iC : PySem.W.findIn X.K (.ref C) "__init__" = some (some (.ref fI))) (tI : PySem.W.typeIn X.K (.ref fI) = some (.type "function"))
    (F1 : FnOk X.prog X.w X.K X.mg X.base CX k fI fd ps sp) (hr : Room (k + 1) X.A) (hb : Binds X.K fd ps ds) (hd : Vals dvs ds) (hx : Passes CX X (fun _ _ _ => False)) (hg : Gl X x) (hm : X.mg x = some (.ref C)) (ha : PA X (e :: es) ta)
    (hdb : (x == ("__debug__" : Str)) = false := by decide) (he : starEach (e :: es) X.env = (false, eval e X.env) :: starEach es X.env := by rfl) (hpl : (backTo pos (starEach es X.env)).any (·.1) = false := by rfl) :
    ∀ (pins : List (Addr × Obj)) (s : Shared) (σ : L2.St) (H : Hp) (Q : XK), Inv X pins σ H s → tMkO C sp dvs ta σ H Q → wpAny (model X.prog X.w) X.A (eval (.Call (.Name x p) (e :: es) [] pos) X.env) (MkX X pins σ C Q) X.xe s := by
  intro pins s σ H Q I h
  obtain ⟨nm, q, N, bs, bm, sn, sub, ab, col, dd, k0, k1, k2, k3, k5, hC, hbm⟩ := T.cls
  refine wpAny_Call_Name_kw (ld_glob I hg hm ?_ hdb)
  refine PySem.W.callWith_K (h₀ := X.base) I.ok.mod.kin T.kC (thn (ha.run pos pins s σ H _ I h) fun us s1 ⟨vs, H1, I1, r1, hz, q1⟩ => ⟨I1.kIn, ?_⟩) he hpl
  show wpAny _ _ (call (.ref C) us) _ _ _
  obtain ⟨hp, g, dr, tk, os⟩ := s1
  have hsz : hp.objs.size ≤ hp.objs.size + 1 := Nat.le_succ _
  have hn : H1 (hp.objs.size + 1) = none := I1.hok.fresh hsz
  have hq := q1 (hp.objs.size + 1) hn
  have kk : ∀ b o, hp.get? b = some o → ((hp.push (PySem.W.kdv_tup us)).push (PySem.HandSPX.excO C hp.objs.size)).get? b = some o := fun b o e => Heap.get?_push_of_some _ (Heap.get?_push_of_some _ e)
  have hget : ((hp.push (PySem.W.kdv_tup us)).push (PySem.HandSPX.excO C hp.objs.size)).get? (hp.objs.size + 1) = some (PySem.HandSPX.excO C hp.objs.size) := by heap_get
  have I2 : Inv X pins σ (upd H1 (hp.objs.size + 1) (exo (hp.objs.size + 1) C none)) ⟨(hp.push (PySem.W.kdv_tup us)).push (PySem.HandSPX.excO C hp.objs.size), g, dr, tk, os⟩ :=
    I1.laid (t' := tk) (a := hp.objs.size + 1) (o := exo (hp.objs.size + 1) C none) (h' := (hp.push (PySem.W.kdv_tup us)).push (PySem.HandSPX.excO C hp.objs.size)) kk hsz (exo_ok hget)
  have r2 : Vals (V.ref (hp.objs.size + 1) :: (vs ++ dvs)) (Value.ref (hp.objs.size + 1) :: (us ++ ds)) := .cons rfl (r1.append hd)
  have hl : (Value.ref (hp.objs.size + 1) :: us ++ ds).length = ps.length := by
    have e := r2.length
    rw [F1.len _ _ _ _ hq] at e
    exact e.symm
  have hus : us.length ≤ sizeLine := by
    rw [← Paired.length r1, sizeLine_eq]
    omega
  refine wpAny_call (PySem.HandSPX.call_own F.excBase_ValueError (fun Y => PySem.HandSPX.refsVE_contains Y bm hbm) (I1.kIn _ _ hC) (PySem.W.looks_findIn I1.kIn iC) (fun self => PySem.W.bind_fn I1.kIn self tI) hus
    (codeAny_mono (F1.run _ X.stack _ _ ⟨Value.ref (hp.objs.size + 1) :: us, []⟩ (Value.ref (hp.objs.size + 1) :: (us ++ ds)) _ _ (fun _ _ _ => False) (hr.make C us []) (I2.env0.make C us []) (hb _ (Value.ref (hp.objs.size + 1) :: us) I2.kIn hl) r2 hq) fun r s' hq' => ?_))
  cases r with
  | error er => exact hx pins σ _ _ er s' I2 hq'
  | ok fl =>
    cases fl with
    | ret u =>
      obtain ⟨v, H2, os2, bare2, un2, hok2, rv, ev, d, fs, ea, ed, hd1, q2⟩ := hq'
      subst ev
      obtain ⟨h2, g2, d2, t2, os'⟩ := s'
      obtain ⟨t0, G, J, kG, ge, hoe, na⟩ := mk_end0 (d2 := d2) (t2 := t2) I1 hsz kk un2 hok2 os2 bare2 ea ed hd1
      exact ⟨rv, _, d, G, _, rfl, J, kG, ge, na, ⟨t0, hoe⟩, q2⟩
    | next => exact False.elim hq'
    | brk => exact False.elim hq'
    | cont => exact False.elim hq'
/-- raise X(..) from Y(..), nothing being handled -/
theorem ps_raiseF {CX CX2 : CXT} {W : WX} {x y : Str} {C C2 fI fI2 : Addr} {k k2 : Nat} {fd fd2 : FuncData} {ps ps2 : List Str} {sp sp2 : Sp} {e2 : Expr} {es2 : List Expr} {p2 pos2 pos' : Pos} (hc : X.calm = true) (tk : Takes X W) (hex : X.ex = [])
    (T : OexC X.K C) (iC : PySem.W.findIn X.K (.ref C) "__init__" = some (some (.ref fI))) (tI : PySem.W.typeIn X.K (.ref fI) = some (.type "function")) (F1 : FnOk X.prog X.w X.K X.mg X.base CX k fI fd ps sp) (hr : Room (k + 1) X.A) (hb : Binds X.K fd ps []) (hx : Passes CX X (fun _ _ _ => False)) (hg : Gl X x) (hm : X.mg x = some (.ref C)) (ha : PA X (e :: es) ta)
    (T2 : OexC X.K C2) (iC2 : PySem.W.findIn X.K (.ref C2) "__init__" = some (some (.ref fI2))) (tI2 : PySem.W.typeIn X.K (.ref fI2) = some (.type "function")) (F2 : FnOk X.prog X.w X.K X.mg X.base CX2 k2 fI2 fd2 ps2 sp2) (hr2 : Room (k2 + 1) X.A) (hb2 : Binds X.K fd2 ps2 []) (hx2 : Passes CX2 X (fun _ _ _ => False)) (hg2 : Gl X y) (hm2 : X.mg y = some (.ref C2)) (ha2 : PA X (e2 :: es2) tb)
    (hdb : (x == ("__debug__" : Str)) = false := by decide) (he : starEach (e :: es) X.env = (false, eval e X.env) :: starEach es X.env := by rfl) (hpl : (backTo pos (starEach es X.env)).any (·.1) = false := by rfl)
    (hdb2 : (y == ("__debug__" : Str)) = false := by decide) (he2 : starEach (e2 :: es2) X.env = (false, eval e2 X.env) :: starEach es2 X.env := by rfl) (hpl2 : (backTo pos2 (starEach es2 X.env)).any (·.1) = false := by rfl) :
    PS X (.Raise (some (.Call (.Name x p) (e :: es) [] pos)) (some (.Call (.Name y p2) (e2 :: es2) [] pos2)) pos') (fun _ σ H => tMkO C sp [] ta σ H fun cls d H' => ∀ a dx, d = some dx → H' a = none → tMkO C2 sp2 [] tb σ (upd H' a (exo a C (some dx))) fun _ _ H2 => H2 a = some (exo a C (some dx)) ∧ Fr0 X.H_0 a ∧ W cls d σ (delH H2 a)) := by
  refine ⟨fun pins s σ H D I h => ?_⟩
  show wpAny _ _ (do standAt pos'; raiseStmt X.env (some (do let v ← eval (.Call (.Name x p) (e :: es) [] pos) X.env; standAt pos'; pure v)) (some (do let v ← eval (.Call (.Name y p2) (e2 :: es2) [] pos2) X.env; standAt pos'; pure v))) _ _ _
  refine wpAny_bind (wpAny_standAt (raise_from (I.ok.hd hc) (wpAny_bind (wpAny_mono (pmx_oex T iC tI F1 hr hb .nil hx hg hm ha hdb he hpl pins s σ H _ I h) (fun u s1 hu => wpAny_bind (wpAny_standAt (wpAny_pure ?_))) fun _ _ x => x))))
  obtain ⟨a, d, G, H', rfl, J, kG, ga, na, ⟨t0, hoe⟩, q⟩ := hu
  have I1 : Inv X pins σ (upd H' a (exo a C (some d))) s1 := J.laidN (t' := s1.toks) (h' := s1.heap) kG ga na (exo_ok hoe)
  refine ⟨a, rfl, wpAny_bind (wpAny_mono (pmx_oex T2 iC2 tI2 F2 hr2 hb2 .nil hx2 hg2 hm2 ha2 hdb2 he2 hpl2 pins s1 σ _ _ I1 (q a d rfl na)) (fun u2 s2 hu2 => wpAny_bind (wpAny_standAt (wpAny_pure ?_))) fun _ _ x => x)⟩
  obtain ⟨b, d2, G2, H2, rfl, J2, kG2, gb, nb, ⟨t1, hob⟩, ⟨hH2, h0, hW⟩⟩ := hu2
  obtain ⟨t2, hoa⟩ := exo_at J2.hok hH2
  have hoa2 := kG2 _ _ hoa
  have hab : a ≠ b := fun z => by
    have hoa : G2.get? a = _ := hoa
    rw [z, gb] at hoa; cases hoa
  obtain ⟨G3, g1, g2, J3⟩ := J2.untrack hH2 h0 hex
  have k3 : ∀ c o, G3.get? c = some o → (causeFrom s2.heap a b).get? c = some o := fun c o z => by
    have nac : a ≠ c := fun y => by rw [← y, g2] at z; cases z
    rw [causeFrom_other nac]
    exact kG2 c o (g1 c o z)
  have r := raises_own (X := X) T.exC T.tyC
  have r' := raises_own (X := X) T2.exC T2.tyC
  have kI : X.K.In s2.heap := J2.kIn.keeps kG2
  obtain ⟨r1, _⟩ := r (model X.prog X.w) s2.heap kI
  obtain ⟨_, r2⟩ := r (model X.prog X.w) (causeFrom s2.heap a b) (J3.kIn.keeps k3)
  obtain ⟨r3, _⟩ := r' (model X.prog X.w) s2.heap kI
  obtain ⟨ha4, hd4⟩ := causeFrom_at (b := b) hoa2 rfl
  refine ⟨b, _, _, _, _, _, _, rfl, hoa2, rfl, rfl, rfl, by show 4 < 6; decide, hob, rfl, rfl, r1, r3, r2, tk _ _ (XE.new J3 k3 g2 ha4 ⟨by rw [Obj.cls_mapFields, Obj.cls_mapFields], by rw [HandSPX.dict_mapFields, HandSPX.dict_mapFields]⟩ hd4 (set_other (by decide) (set_other (by decide) rfl)) delH_same rfl J3.bare hW)⟩
end
/-! the statement, as a computation -/
section
variable {β α γ : Type} {c : Cxt β} {σ : L2.St} {F H : Hp} {ta tb : TE} {u : L2.TS} {D : Ends} {i : Nat} {C C2 : Addr} {fl fl' : Str}
theorem sq_raise1F {m : M α} {n : M γ} {r : Rl α} {r2 : Rl γ} {enc : α → Fv} (ev : EvC c.w (ta σ) (fz r) m F H) (ev2 : EvC c.w (tb σ) (fz r2) n F H) (henc : ∀ F v x, r F v x → v = (enc x).v) (e0 : Xt c.F0 c.H0 F H) (hcl : c.w.cl i = C) (h : Po c (m.bd fun x => n.bd fun _ => (M.exc ⟨i, [(fl, enc x)]⟩ : M β))) :
    tSeq (fun _ σ H => tMkO C (sp_se1 C fl) [] (tCons ta tNil) σ H fun cls d H' => ∀ a dx, d = some dx → H' a = none → tMkO C2 (sp_se1 C2 fl') [] (tCons tb tNil) σ (upd H' a (exo a C (some dx))) fun _ _ H2 => H2 a = some (exo a C (some dx)) ∧ Fr0 c.H0 a ∧ c.w.E cls d (delH H2 a)) u D σ H := by
  refine EvC.run (C := ta σ) ev e0 h fun x v F1 H1 e1 hv hk => ?_
  have hv : v = (enc x).v := henc _ _ _ hv
  subst hcl
  show [v].length ≤ 1000 ∧ _
  refine ⟨by simp, fun a' ha' => ⟨a', v, rfl, upd_same, fun dx hdx hne => ?_⟩⟩
  rw [upd_ne hne] at hdx
  refine ⟨rfl, dx, [(fl, v)], upd_same, by rw [upd_ne hne]; exact upd_same, hdx, ?_⟩
  rw [del_upd ha' hne]
  intro a dx' ed na
  cases ed
  have e2 := e1.newM hdx (o := .xd [(fl, v)])
  have e3 := e2.newM na (o := exo a (c.w.cl i) (some dx))
  have hda : dx ≠ a := fun z => by rw [z, upd_same] at na; cases na
  have h0a : c.H0 a = none := by
    cases q : c.H0 a with
    | none => rfl
    | some o => rw [(e0.trans e2).hh _ _ q] at na; cases na
  have f1a : F1 a = none := by
    cases q : F1 a with
    | none => rfl
    | some o => rw [e2.fh _ _ q] at na; cases na
  refine EvC.run (C := tb σ) (k := fun _ => (M.exc ⟨i, [(fl, enc x)]⟩ : M β)) (ev2.up e3) (e0.trans e3) hk fun y v2 F4 H4 e4 hv2 hk2 => ?_
  show [v2].length ≤ 1000 ∧ _
  refine ⟨by simp, fun b hb => ⟨b, v2, rfl, upd_same, fun dy hdy hne2 => ?_⟩⟩
  rw [upd_ne hne2] at hdy
  refine ⟨rfl, dy, [(fl', v2)], upd_same, by rw [upd_ne hne2]; exact upd_same, hdy, ?_⟩
  rw [del_upd hb hne2]
  have h4a : H4 a = some (exo a (c.w.cl i) (some dx)) := e4.hh _ _ upd_same
  have h4d : H4 dx = some (.xd [(fl, v)]) := e4.hh _ _ (by rw [upd_ne hda]; exact upd_same)
  have e5 := e4.newM hdy (o := .xd [(fl', v2)])
  have h5a : upd H4 dy (.xd [(fl', v2)]) a = some (exo a (c.w.cl i) (some dx)) := e5.hh _ _ upd_same
  have h5d : upd H4 dy (.xd [(fl', v2)]) dx = some (.xd [(fl, v)]) := e5.hh _ _ (by rw [upd_ne hda]; exact upd_same)
  have f4a : F4 a = none := e4.nf a (by rw [upd_same]; exact trivial) f1a
  have eA := (e0.trans e3).trans e5
  have hdel : ∀ b o, b ≠ a → upd H4 dy (.xd [(fl', v2)]) b = some o → delH (upd H4 dy (.xd [(fl', v2)])) a b = some o := fun b o hb q => by rw [delH_ne hb]; exact q
  refine ⟨h5a, fr0_none h0a, hk2.2 F4 _ _ ⟨fun b o q => hdel b o (fun z => by rw [z, h0a] at q; cases q) (eA.hh _ _ q), eA.ff, fun b o q => hdel b o (fun z => by rw [z, f4a] at q; cases q) (e5.fh _ _ q), eA.nf⟩ (.inl ⟨dx, rfl, ?_⟩)⟩
  rw [hdel dx _ hda h5d, hv]; rfl
end
end SF
/-! ### errors of own classes as values -/
namespace SF
open PySem PySem.Spec PyProof.Rows L2
section
variable {X : L2.Cx} {e : Expr} {es : List Expr} {ta : TA} {te : TE} {p pos : Pos}
theorem run_oex {CX : CXT} {C fI : Addr} {k : Nat} {fd : FuncData} {ps : List Str} {sp : Sp} {ds : List Value} {dvs : List V} {pins : List (Addr × Obj)} {σ : L2.St} {H1 : Hp} {s1 : Shared} {us : List Value} {vs : List V} {Q : XK} (T : OexC X.K C) (iC : PySem.W.findIn X.K (.ref C) "__init__" = some (some (.ref fI))) (tI : PySem.W.typeIn X.K (.ref fI) = some (.type "function"))
    (F1 : FnOk X.prog X.w X.K X.mg X.base CX k fI fd ps sp) (hr : Room (k + 1) X.A) (hb : Binds X.K fd ps ds) (hd : Vals dvs ds) (hx : Passes CX X (fun _ _ _ => False)) (I1 : Inv X pins σ H1 s1) (r1 : Vals vs us) (hz : vs.length ≤ 1000)
    (q1 : ∀ a, H1 a = none → sp (.ref a :: (vs ++ dvs)) (upd H1 a (exo a C none)) (fun v H2 => v = .non ∧ ∃ (d : Addr) (fs : List (Str × V)), H2 a = some (exo a C (some d)) ∧ H2 d = some (exd d fs) ∧ H1 d = none ∧ Q (.ref C) (some d) (upd (del H2 a) d (.xd fs))) (fun _ _ _ => False)) :
    wpAny (model X.prog X.w) X.A (call (.ref C) us) (MkX X pins σ C Q) X.xe s1 := by
  obtain ⟨nm, q, N, bs, bm, sn, sub, ab, col, dd, k0, k1, k2, k3, k5, hC, hbm⟩ := T.cls
  obtain ⟨hp, g, dr, tk, os⟩ := s1
  have hsz : hp.objs.size ≤ hp.objs.size + 1 := Nat.le_succ _
  have hn : H1 (hp.objs.size + 1) = none := I1.hok.fresh hsz
  have hq := q1 (hp.objs.size + 1) hn
  have kk : ∀ b o, hp.get? b = some o → ((hp.push (PySem.W.kdv_tup us)).push (PySem.HandSPX.excO C hp.objs.size)).get? b = some o := fun b o e => Heap.get?_push_of_some _ (Heap.get?_push_of_some _ e)
  have hget : ((hp.push (PySem.W.kdv_tup us)).push (PySem.HandSPX.excO C hp.objs.size)).get? (hp.objs.size + 1) = some (PySem.HandSPX.excO C hp.objs.size) := by heap_get
  have I2 : Inv X pins σ (upd H1 (hp.objs.size + 1) (exo (hp.objs.size + 1) C none)) ⟨(hp.push (PySem.W.kdv_tup us)).push (PySem.HandSPX.excO C hp.objs.size), g, dr, tk, os⟩ :=
    I1.laid (t' := tk) (a := hp.objs.size + 1) (o := exo (hp.objs.size + 1) C none) (h' := (hp.push (PySem.W.kdv_tup us)).push (PySem.HandSPX.excO C hp.objs.size)) kk hsz (exo_ok hget)
  have r2 : Vals (V.ref (hp.objs.size + 1) :: (vs ++ dvs)) (Value.ref (hp.objs.size + 1) :: (us ++ ds)) := .cons rfl (r1.append hd)
  have hl : (Value.ref (hp.objs.size + 1) :: us ++ ds).length = ps.length := by
    have e := r2.length
    rw [F1.len _ _ _ _ hq] at e
    exact e.symm
  have hus : us.length ≤ sizeLine := by
    rw [← Paired.length r1, sizeLine_eq]
    omega
  refine wpAny_call (PySem.HandSPX.call_own F.excBase_ValueError (fun Y => PySem.HandSPX.refsVE_contains Y bm hbm) (I1.kIn _ _ hC) (PySem.W.looks_findIn I1.kIn iC) (fun self => PySem.W.bind_fn I1.kIn self tI) hus
    (codeAny_mono (F1.run _ X.stack _ _ ⟨Value.ref (hp.objs.size + 1) :: us, []⟩ (Value.ref (hp.objs.size + 1) :: (us ++ ds)) _ _ (fun _ _ _ => False) (hr.make C us []) (I2.env0.make C us []) (hb _ (Value.ref (hp.objs.size + 1) :: us) I2.kIn hl) r2 hq) fun r s' hq' => ?_))
  cases r with
  | error er => exact hx pins σ _ _ er s' I2 hq'
  | ok fl =>
    cases fl with
    | ret u =>
      obtain ⟨v, H2, os2, bare2, un2, hok2, rv, ev, d, fs, ea, ed, hd1, q2⟩ := hq'
      subst ev
      obtain ⟨h2, g2, d2, t2, os'⟩ := s'
      obtain ⟨t0, G, J, kG, ge, hoe, na⟩ := mk_end0 (d2 := d2) (t2 := t2) I1 hsz kk un2 hok2 os2 bare2 ea ed hd1
      exact ⟨rv, _, d, G, _, rfl, J, kG, ge, na, ⟨t0, hoe⟩, q2⟩
    | next => exact False.elim hq'
    | brk => exact False.elim hq'
    | cont => exact False.elim hq'
theorem mkx_mkp {C : Addr} {pins : List (Addr × Obj)} {σ : L2.St} {Q : XK} {u : Value} {s : Shared} (T : OexC X.K C) (h : MkX X pins σ C Q u s) : MkP X pins σ Q u s := by
  obtain ⟨a, d, G, H', rfl, I, kG, ga, na, ⟨t0, hoe⟩, q⟩ := h
  exact ⟨a, _, _, { s with heap := G }, H', .ref C, some d, rfl, I, kG, ga, hoe, ⟨rfl, rfl⟩, rfl, rfl, na, rfl, I.bare, raises_own T.exC T.tyC, q⟩
/-- an error made and held -/
def tOexV (C : Addr) (sp : Sp) (ta : TA) : TE := fun σ H Q => tMkO C sp [] ta σ H fun _ d H' => ∀ a dx, d = some dx → H' a = none → Q (.ref a) (upd H' a (exo a C (some dx)))
theorem held {C : Addr} {pins : List (Addr × Obj)} {σ : L2.St} {u : Value} {s : Shared} {Q : VK} (h : MkX X pins σ C (fun _ d H' => ∀ a dx, d = some dx → H' a = none → Q (.ref a) (upd H' a (exo a C (some dx)))) u s) : EP X pins σ Q u s := by
  obtain ⟨a, d, G, H', rfl, J, kG, ga, na, ⟨t0, hoe⟩, q⟩ := h
  exact ⟨.ref a, _, J.laidN (t' := s.toks) (h' := s.heap) kG ga na (exo_ok hoe), rfl, q a d rfl na⟩
theorem pe_oexV {CX : CXT} {x : Str} {C fI : Addr} {k : Nat} {fd : FuncData} {ps : List Str} {sp : Sp} (T : OexC X.K C) (iC : PySem.W.findIn X.K (.ref C) "__init__" = some (some (.ref fI))) (tI : PySem.W.typeIn X.K (.ref fI) = some (.type "function"))
    (F1 : FnOk X.prog X.w X.K X.mg X.base CX k fI fd ps sp) (hr : Room (k + 1) X.A) (hb : Binds X.K fd ps []) (hx : Passes CX X (fun _ _ _ => False)) (hg : Gl X x) (hm : X.mg x = some (.ref C)) (ha : PA X (e :: es) ta)
    (hdb : (x == ("__debug__" : Str)) = false := by decide) (he : starEach (e :: es) X.env = (false, eval e X.env) :: starEach es X.env := by rfl) (hpl : (backTo pos (starEach es X.env)).any (·.1) = false := by rfl) :
    PE X (.Call (.Name x p) (e :: es) [] pos) (tOexV C sp ta) := ⟨fun pins s σ H Q I h => thn (pmx_oex T iC tI F1 hr hb .nil hx hg hm ha hdb he hpl pins s σ H _ I h) fun _ _ z => held z⟩
/-- X(), an error without a field, made and held -/
def tOexZ (C : Addr) (sp : Sp) : TE := fun σ H Q => ∀ a, H a = none → sp [.ref a] (upd H a (exo a C none)) (fun v H2 => v = .non ∧ H2 a = some (exo a C none) ∧ Q (.ref a) H2) (fun _ _ _ => False)
theorem run_oexZ {CX : CXT} {C fI : Addr} {k : Nat} {fd : FuncData} {ps : List Str} {sp : Sp} {pins : List (Addr × Obj)} {σ : L2.St} {H1 : Hp} {s1 : Shared} {Q : VK} (T : OexC X.K C) (iC : PySem.W.findIn X.K (.ref C) "__init__" = some (some (.ref fI))) (tI : PySem.W.typeIn X.K (.ref fI) = some (.type "function"))
    (F1 : FnOk X.prog X.w X.K X.mg X.base CX k fI fd ps sp) (hr : Room (k + 1) X.A) (hb : Binds X.K fd ps []) (hx : Passes CX X (fun _ _ _ => False)) (I1 : Inv X pins σ H1 s1)
    (q1 : ∀ a, H1 a = none → sp [.ref a] (upd H1 a (exo a C none)) (fun v H2 => v = .non ∧ H2 a = some (exo a C none) ∧ Q (.ref a) H2) (fun _ _ _ => False)) :
    wpAny (model X.prog X.w) X.A (call (.ref C) []) (EP X pins σ Q) X.xe s1 := by
  obtain ⟨nm, q, N, bs, bm, sn, sub, ab, col, dd, k0, k1, k2, k3, k5, hC, hbm⟩ := T.cls
  obtain ⟨hp, g, dr, tk, os⟩ := s1
  have hsz : hp.objs.size ≤ hp.objs.size + 1 := Nat.le_succ _
  have hn : H1 (hp.objs.size + 1) = none := I1.hok.fresh hsz
  have hq := q1 (hp.objs.size + 1) hn
  have kk : ∀ b o, hp.get? b = some o → ((hp.push (PySem.W.kdv_tup ([] : List Value))).push (PySem.HandSPX.excO C hp.objs.size)).get? b = some o := fun b o e => Heap.get?_push_of_some _ (Heap.get?_push_of_some _ e)
  have hget : ((hp.push (PySem.W.kdv_tup ([] : List Value))).push (PySem.HandSPX.excO C hp.objs.size)).get? (hp.objs.size + 1) = some (PySem.HandSPX.excO C hp.objs.size) := by heap_get
  have I2 : Inv X pins σ (upd H1 (hp.objs.size + 1) (exo (hp.objs.size + 1) C none)) ⟨(hp.push (PySem.W.kdv_tup ([] : List Value))).push (PySem.HandSPX.excO C hp.objs.size), g, dr, tk, os⟩ :=
    I1.laid (t' := tk) (a := hp.objs.size + 1) (o := exo (hp.objs.size + 1) C none) (h' := (hp.push (PySem.W.kdv_tup ([] : List Value))).push (PySem.HandSPX.excO C hp.objs.size)) kk hsz (exo_ok hget)
  have r2 : Vals (V.ref (hp.objs.size + 1) :: ([] : List V)) (Value.ref (hp.objs.size + 1) :: ([] : List Value)) := .cons rfl (.nil)
  have hl : (Value.ref (hp.objs.size + 1) :: ([] : List Value)).length = ps.length := by
    have e := r2.length
    rw [F1.len _ _ _ _ hq] at e
    exact e.symm
  have hus : ([] : List Value).length ≤ sizeLine := by
    rw [sizeLine_eq]; decide
  refine wpAny_call (PySem.HandSPX.call_own F.excBase_ValueError (fun Y => PySem.HandSPX.refsVE_contains Y bm hbm) (I1.kIn _ _ hC) (PySem.W.looks_findIn I1.kIn iC) (fun self => PySem.W.bind_fn I1.kIn self tI) hus
    (codeAny_mono (F1.run _ X.stack _ _ ⟨Value.ref (hp.objs.size + 1) :: [], []⟩ (Value.ref (hp.objs.size + 1) :: ([] : List Value)) _ _ (fun _ _ _ => False) (hr.make C [] []) (I2.env0.make C [] []) (hb _ (Value.ref (hp.objs.size + 1) :: ([] : List Value)) I2.kIn hl) r2 hq) fun r s' hq' => ?_))
  cases r with
  | error er => exact hx pins σ _ _ er s' I2 hq'
  | ok fl =>
    cases fl with
    | ret u =>
      obtain ⟨v, H2, I3, rv, ev, e1, e2⟩ := I2.after hq'
      subst ev
      exact ⟨rv, .ref (hp.objs.size + 1), H2, I3, rfl, e2⟩
    | next => exact False.elim hq'
    | brk => exact False.elim hq'
    | cont => exact False.elim hq'
theorem pe_oexZ {CX : CXT} {x : Str} {C fI : Addr} {k : Nat} {fd : FuncData} {ps : List Str} {sp : Sp} (T : OexC X.K C) (iC : PySem.W.findIn X.K (.ref C) "__init__" = some (some (.ref fI))) (tI : PySem.W.typeIn X.K (.ref fI) = some (.type "function"))
    (F1 : FnOk X.prog X.w X.K X.mg X.base CX k fI fd ps sp) (hr : Room (k + 1) X.A) (hb : Binds X.K fd ps []) (hx : Passes CX X (fun _ _ _ => False)) (hg : Gl X x) (hm : X.mg x = some (.ref C)) (hdb : (x == ("__debug__" : Str)) = false := by decide) :
    PE X (.Call (.Name x p) [] [] pos) (tOexZ C sp) := by
  refine ⟨fun pins s σ H Q I h => ?_⟩
  refine wpAny_Call_Name_kw (ld_glob I hg hm ?_ hdb)
  exact PySem.W.callWith_K0 I.kIn T.kC (run_oexZ T iC tI F1 hr hb hx I h)
/-- .. raised -/
theorem pmk_oexZ {CX : CXT} {x : Str} {C fI : Addr} {k : Nat} {fd : FuncData} {ps : List Str} {sp : Sp} (hex : X.ex = []) (T : OexC X.K C) (iC : PySem.W.findIn X.K (.ref C) "__init__" = some (some (.ref fI))) (tI : PySem.W.typeIn X.K (.ref fI) = some (.type "function"))
    (F1 : FnOk X.prog X.w X.K X.mg X.base CX k fI fd ps sp) (hr : Room (k + 1) X.A) (hb : Binds X.K fd ps []) (hx : Passes CX X (fun _ _ _ => False)) (hg : Gl X x) (hm : X.mg x = some (.ref C)) (hdb : (x == ("__debug__" : Str)) = false := by decide) :
    PMk X (.Call (.Name x p) [] [] pos) (fun σ H Q => tOexZ C sp σ H fun u H2 => ∃ a, u = .ref a ∧ H2 a = some (exo a C none) ∧ Fr0 X.H_0 a ∧ Q (.ref C) none (delH H2 a)) := by
  intro pins s σ H Q I h
  refine wpAny_mono ((pe_oexZ (p := p) (pos := pos) T iC tI F1 hr hb hx hg hm hdb).run pins s σ H _ I h) (fun u s1 hu => ?_) fun _ _ x => x
  obtain ⟨v, H1, I1, r1, a, rfl, ha, h0, q⟩ := hu
  cases r1
  obtain ⟨t0, ho⟩ := exo_at I1.hok ha
  obtain ⟨G, gs, ga, J⟩ := I1.untrack ha h0 hex
  exact ⟨a, _, _, { s1 with heap := G }, delH H1 a, .ref C, none, rfl, J, gs, ga, ho, ⟨rfl, rfl⟩, rfl, rfl, delH_same, rfl, I1.bare, raises_own T.exC T.tyC, q⟩
/-- e.n, e an error that is held -/
def tFldX (K : PySem.W.Frag) (n : Str) (te : TE) : TE := fun σ H Q => te σ H fun x H1 => ∃ (a C d : Addr) (fs : List (Str × V)) (v : V), x = .ref a ∧ H1 a = some (exo a C (some d)) ∧ H1 d = some (.xd fs) ∧ fs.lookup n = some v ∧ XfC K C ∧ PySem.W.findIn K (.ref C) n = some none ∧ Q v H1
theorem pe_fldX {n : Str} (he : PE X e te) (hb : attributeBase e n X.env (eval e X.env) = eval e X.env := by rfl) : PE X (.Attribute e n pos) (tFldX X.K n te) := by
  refine ⟨fun pins s σ H Q I h => ?_⟩
  refine attr_of hb (thn (he.run pins s σ H _ I h) fun u s1 hh => ?_)
  obtain ⟨x, H1, I1, rx, a, C, d, fs, v, ex, ea, ed, l, T, hno, q⟩ := hh
  subst ex
  obtain rfl : u = Value.ref a := rx
  obtain ⟨t0, ha⟩ := exo_at I1.hok ea
  have hx : ObjOk X.prog X.w H1 s1.heap d (.xd fs) := I1.hok d _ ed
  obtain ⟨mA, hns, hr⟩ := hx
  obtain ⟨od, ho, hl⟩ := lookIn_ns hns
  obtain ⟨u, hu, ru⟩ := RelO.some_of (v := v) (o := mA n) (by rw [← l]; exact hr n)
  have J : PySem.W.InstAt s1.heap a _ C (some od) := ⟨ha, rfl, by unfold PySem.W.notCls; rfl, ho⟩
  exact HandSPX.exc_get I1.kIn J T.ga T.gg T.exC (PySem.W.findObj_own T.hdC hno rfl (by rw [hl, hu])) (handed_of ru) ⟨v, H1, I1.tok _, ru, q⟩
theorem pe_fldXK {K : PySem.W.Frag} {n : Str} (he : PE X e te) (hb : attributeBase e n X.env (eval e X.env) = eval e X.env := by rfl) (h : X.K = K := by rfl) : PE X (.Attribute e n pos) (tFldX K n te) := by subst h; exact pe_fldX he hb
end
/-- isinstance(e, c), e an error that is held -/
def rIsX (K : PySem.W.Frag) : List V → Hp → VK → Prop := fun xs H Q => ∃ (a D : Addr) (c : V) (cv : Value) (b : Bool), xs = [.ref a, c] ∧ ((∃ (dd : Addr) (fs : List (Str × V)), H a = some (exo a D (some dd)) ∧ H dd = some (.xd fs)) ∨ H a = some (exo a D none)) ∧ ExcC K D ∧ (∀ u, RelV c u → u = cv) ∧ PySem.W.kitOne K (.ref D) cv = some b ∧ Q (.bl b) H
theorem call_isX {X : L2.Cx} : CallR X (.builtin "isinstance") (rIsX X.K) := by
  intro pins s σ H xs us Q I r h
  obtain ⟨a, D, c, cv, b, rfl, hk, C, hcv, e, q⟩ := h
  cases r with
  | cons rx rr =>
    cases rr with
    | cons rt rr =>
      cases rr
      cases rx
      have ec := hcv _ rt
      subst ec
      rcases hk with ⟨dd, fs, ea, ed⟩ | ea
      · obtain ⟨t0, ha⟩ := exo_at I.hok ea
        have hx : ObjOk X.prog X.w H s.heap dd (.xd fs) := I.hok dd _ ed
        obtain ⟨mA, hns, hr⟩ := hx
        obtain ⟨od, ho, hl⟩ := lookIn_ns hns
        have J : PySem.W.InstAt s.heap a _ D (some od) := ⟨ha, rfl, by unfold PySem.W.notCls; rfl, ho⟩
        exact PySem.W.kia_one (kitx_excD C.hg C.hk C.hs C.hd C.ha C.hn C.ht C.hm) I.kIn J e (fun z => nomatch z) fun tk => ⟨.bl b, H, I.kept (t' := tk) fun _ _ z => z, rfl, q⟩
      · obtain ⟨t0, ha⟩ := exo_at I.hok ea
        have J : PySem.W.InstAt s.heap a _ D none := ⟨ha, rfl, by unfold PySem.W.notCls; rfl, trivial⟩
        exact PySem.W.kia_one (PySem.W.handS_kitx_exc C.hg C.hk C.hs C.hd C.ha C.hn C.ht C.hm) I.kIn J e (fun z => nomatch z) fun tk => ⟨.bl b, H, I.kept (t' := tk) fun _ _ z => z, rfl, q⟩
theorem call_isXK {X : L2.Cx} {K : PySem.W.Frag} (h : X.K = K := by rfl) : CallR X (.builtin "isinstance") (rIsX K) := by subst h; exact call_isX
/-! raise X(), as a computation -/
theorem sq_raise0H {β : Type} {c : Cxt β} {σ : L2.St} {F H Hh : Hp} {u : L2.TS} {D : Ends} {i : Nat} {C : Addr} {sp : Sp} (hsp : ∀ (a : Addr) (H : Hp) (Q : VK) (E : XK), H a = some (exo a C none) → Q .non H → sp [.ref a] H Q E) (h0 : ∀ a, H a = none → Hh a = none) (e0 : Xt c.F0 c.H0 F H) (hcl : c.w.cl i = C) (h : Po c (M.exc ⟨i, []⟩ : M β)) :
    tSeq (fun _ σ H => tOexZ C sp σ H fun u H2 => ∃ a, u = .ref a ∧ H2 a = some (exo a C none) ∧ Fr0 Hh a ∧ c.w.E (.ref C) none (delH H2 a)) u D σ H := by
  intro a ha
  subst hcl
  refine hsp a _ _ _ upd_same ⟨rfl, upd_same, a, rfl, upd_same, fr0_none (h0 a ha), ?_⟩
  rw [delH_new ha]
  exact h.2 F H none e0 (.inr ⟨rfl, rfl⟩)
theorem sq_raise0 {β : Type} {c : Cxt β} {σ : L2.St} {F H : Hp} {u : L2.TS} {D : Ends} {i : Nat} {C : Addr} {sp : Sp} (hsp : ∀ (a : Addr) (H : Hp) (Q : VK) (E : XK), H a = some (exo a C none) → Q .non H → sp [.ref a] H Q E) (e0 : Xt c.F0 c.H0 F H) (hcl : c.w.cl i = C) (h : Po c (M.exc ⟨i, []⟩ : M β)) :
    tSeq (fun _ σ H => tOexZ C sp σ H fun u H2 => ∃ a, u = .ref a ∧ H2 a = some (exo a C none) ∧ Fr0 c.H0 a ∧ c.w.E (.ref C) none (delH H2 a)) u D σ H :=
  sq_raise0H hsp (fun a ha => by
    cases q : c.H0 a with
    | none => rfl
    | some o => rw [e0.hh _ _ q] at ha; cases ha) e0 hcl h
end SF
/-! ### errors as data -/
namespace SF
open PySem PySem.Spec PyProof.Rows L2
/-- an error with fields -/
def rEx (cl : Nat → Addr) : Rl Ex := fun F v e => ∃ a, v = .ref a ∧ ((∃ d, F a = some (exo a (cl e.cls) (some d)) ∧ F d = some (.xd e.vs)) ∨ (F a = some (exo a (cl e.cls) none) ∧ e.fs = []))
instance {cl : Nat → Addr} : Mono (rEx cl) := ⟨fun s ⟨a, e, h⟩ => ⟨a, e, h.imp (fun ⟨d, h1, h2⟩ => ⟨d, s _ _ h1, s _ _ h2⟩) fun ⟨h1, h2⟩ => ⟨s _ _ h1, h2⟩⟩⟩
section
variable {w : Xw} {σ : L2.St} {F H : Hp} {K : PySem.W.Frag} {ta tb te : TE} {α β : Type} {cl : Nat → Addr} {i : Nat} {C : Addr} {fl fl' : Str}
theorem e_mkE1 {m : M α} {r : Rl α} {enc : α → Fv} (hcl : cl i = C) (henc : ∀ F v x, r F v x → v = (enc x).v) (ha : EvC w (ta σ) (fz r) m F H) : EvC w (tOexV C (sp_se1 C fl) (tCons ta tNil) σ) (fz (rEx cl)) (m.bd fun x => .ok ⟨i, [(fl, enc x)]⟩) F H := by
  refine EvC.last (D := fun (v : V) H (Q : VK) => [v].length ≤ 1000 ∧ ∀ a, H a = none → sp_se1 C fl (.ref a :: ([v] ++ [])) (upd H a (exo a C none)) (fun v H2 => v = .non ∧ ∃ (d : Addr) (fs : List (Str × V)), H2 a = some (exo a C (some d)) ∧ H2 d = some (exd d fs) ∧ H d = none ∧ ∀ a' dx, some d = some dx → (upd (del H2 a) d (.xd fs)) a' = none → Q (.ref a') (upd (upd (del H2 a) d (.xd fs)) a' (exo a' C (some dx)))) (fun _ _ _ => False)) (R' := fz (rEx cl)) ha (fun _ => .inl ⟨_, rfl⟩) fun x y v F1 H1 F2 H2 hz e1 e2 hr Q q => ?_
  cases hz
  have hv : v = (enc x).v := henc _ _ _ hr
  refine ⟨by simp, fun a' ha' => ⟨a', v, rfl, upd_same, fun dx hdx hne => ?_⟩⟩
  rw [upd_ne hne] at hdx
  refine ⟨rfl, dx, [(fl, v)], upd_same, by rw [upd_ne hne]; exact upd_same, hdx, ?_⟩
  rw [del_upd ha' hne]
  intro a dx' ed na
  cases ed
  have hda : dx ≠ a := fun z => by rw [z, upd_same] at na; cases na
  have e3 := ((Xt.refl e2.fh).newF hdx (o := .xd [(fl, v)])).newF na (o := exo a C (some dx))
  refine q _ _ _ e3 ⟨a, rfl, .inl ⟨dx, by rw [hcl]; exact upd_same, ?_⟩⟩
  rw [upd_ne hda, upd_same, hv]; rfl
theorem e_mkE2 {m : M α} {n : M β} {r : Rl α} {s : Rl β} [Mono r] {enc : α → Fv} {enc' : β → Fv} (hcl : cl i = C) (henc : ∀ F v x, r F v x → v = (enc x).v) (henc' : ∀ F v x, s F v x → v = (enc' x).v) (ha : EvC w (ta σ) (fz r) m F H) (hb : EvC w (tb σ) (fz s) n F H) :
    EvC w (tOexV C (sp_se2 C fl fl') (tCons ta (tCons tb tNil)) σ) (fz (rEx cl)) (m.bd fun x => n.bd fun y => .ok ⟨i, [(fl', enc' y), (fl, enc x)]⟩) F H := by
  refine EvC.bind (D := fun (v : V) H (Q : VK) => tb σ H fun u H => [v, u].length ≤ 1000 ∧ ∀ a, H a = none → sp_se2 C fl fl' (.ref a :: ([v, u] ++ [])) (upd H a (exo a C none)) (fun v H2 => v = .non ∧ ∃ (d : Addr) (fs : List (Str × V)), H2 a = some (exo a C (some d)) ∧ H2 d = some (exd d fs) ∧ H d = none ∧ ∀ a' dx, some d = some dx → (upd (del H2 a) d (.xd fs)) a' = none → Q (.ref a') (upd (upd (del H2 a) d (.xd fs)) a' (exo a' C (some dx)))) (fun _ _ _ => False)) (R' := fz (rEx cl)) ha fun x v F1 H1 F2 H2 e1 e2 hr => ?_
  refine EvC.last (D := fun (u : V) H (Q : VK) => [v, u].length ≤ 1000 ∧ ∀ a, H a = none → sp_se2 C fl fl' (.ref a :: ([v, u] ++ [])) (upd H a (exo a C none)) (fun v H2 => v = .non ∧ ∃ (d : Addr) (fs : List (Str × V)), H2 a = some (exo a C (some d)) ∧ H2 d = some (exd d fs) ∧ H d = none ∧ ∀ a' dx, some d = some dx → (upd (del H2 a) d (.xd fs)) a' = none → Q (.ref a') (upd (upd (del H2 a) d (.xd fs)) a' (exo a' C (some dx)))) (fun _ _ _ => False)) (R' := fz (rEx cl)) (hb.up (e1.trans e2)) (fun _ => .inl ⟨_, rfl⟩) (fun y z u F3 H3 F4 H4 hz e3 e4 hs Q q => ?_) F2 H2 (Xt.refl e2.fh)
  cases hz
  have hv : v = (enc x).v := henc _ _ _ hr
  have hu : u = (enc' y).v := henc' _ _ _ hs
  refine ⟨by simp, fun a' ha' => ⟨a', v, u, rfl, upd_same, fun dx hdx hne => ?_⟩⟩
  rw [upd_ne hne] at hdx
  refine ⟨rfl, dx, [(fl', u), (fl, v)], by rw [upd_ne hne.symm]; exact upd_same, upd_same, hdx, ?_⟩
  rw [del_upd2 ha' hne]
  intro a dx' ed na
  cases ed
  have hda : dx ≠ a := fun z => by rw [z, upd_same] at na; cases na
  have e5 := ((Xt.refl e4.fh).newF hdx (o := .xd [(fl', u), (fl, v)])).newF na (o := exo a C (some dx))
  refine q _ _ _ e5 ⟨a, rfl, .inl ⟨dx, by rw [hcl]; exact upd_same, ?_⟩⟩
  rw [upd_ne hda, upd_same, hv, hu]; rfl
theorem e_mkE0 {sp : Sp} (hcl : cl i = C) (hsp : ∀ (a : Addr) (H : Hp) (Q : VK) (E : XK), H a = some (exo a C none) → Q .non H → sp [.ref a] H Q E) : EvC w (tOexZ C sp σ) (fz (rEx cl)) (.ok ⟨i, []⟩) F H := fun F1 H1 e1 Q q a ha => by
  refine hsp a _ _ _ upd_same ⟨rfl, upd_same, ?_⟩
  have e3 := (Xt.refl e1.fh).newF ha (o := exo a C none)
  exact q _ _ _ e3 ⟨a, rfl, .inr ⟨by rw [hcl]; exact upd_same, rfl⟩⟩
/-- a field read -/
theorem e_fldX {m : M Ex} {f : Str} (cs : List Nat) (hx : ∀ n, XfC K (cl n)) (hno : ∀ n ∈ cs, PySem.W.findIn K (.ref (cl n)) f = some none) (ha : EvC w (te σ) (fz (rEx cl)) m F H) : EvC w (tFldX K f te σ) (fz rI) (m.bd fun e => M.gd (e.cls ∈ cs) (xI e f)) F H := by
  refine EvC.last (D := fun (x : V) H1 (Q : VK) => ∃ (a C d : Addr) (fs : List (Str × V)) (v : V), x = .ref a ∧ H1 a = some (exo a C (some d)) ∧ H1 d = some (.xd fs) ∧ fs.lookup f = some v ∧ XfC K C ∧ PySem.W.findIn K (.ref C) f = some none ∧ Q v H1) (R' := fz rI) ha (fun e => ?_) fun e y v F1 H1 F2 H2 hz e1 e2 hr Q q => ?_
  · unfold M.gd
    split
    · unfold xI
      split
      · exact .inl ⟨_, rfl⟩
      · exact .inr rfl
    · exact .inr rfl
  · have hS : e.cls ∈ cs ∧ xI e f = .ok y := by
      unfold M.gd at hz
      split at hz
      · rename_i h; exact ⟨h, hz⟩
      · cases hz
    obtain ⟨hS, hz⟩ := hS
    unfold xI at hz
    split at hz
    · rename_i i' hl
      cases hz
      obtain ⟨a, rfl, ⟨d, h1, h2⟩ | ⟨_, h2⟩⟩ := hr
      · exact ⟨a, _, d, e.vs, .int y, rfl, e2.fh _ _ h1, e2.fh _ _ h2, by rw [vs_look, hl]; rfl, hx _, hno _ hS, q _ _ _ (Xt.refl e2.fh) rfl⟩
      · rw [h2] at hl; cases hl
    · cases hz
theorem e_fldXT {m : M Ex} {f : Str} (cs : List Nat) (hx : ∀ n, XfC K (cl n)) (hno : ∀ n ∈ cs, PySem.W.findIn K (.ref (cl n)) f = some none) (ha : EvC w (te σ) (fz (rEx cl)) m F H) : EvC w (tFldX K f te σ) (fz qS) (m.bd fun e => M.gd (e.cls ∈ cs) (xT e f)) F H := by
  refine EvC.last (D := fun (x : V) H1 (Q : VK) => ∃ (a C d : Addr) (fs : List (Str × V)) (v : V), x = .ref a ∧ H1 a = some (exo a C (some d)) ∧ H1 d = some (.xd fs) ∧ fs.lookup f = some v ∧ XfC K C ∧ PySem.W.findIn K (.ref C) f = some none ∧ Q v H1) (R' := fz qS) ha (fun e => ?_) fun e y v F1 H1 F2 H2 hz e1 e2 hr Q q => ?_
  · unfold M.gd
    split
    · unfold xT
      split
      · exact gd_or
      · exact .inr rfl
    · exact .inr rfl
  · have hS : e.cls ∈ cs ∧ xT e f = .ok y := by
      unfold M.gd at hz
      split at hz
      · rename_i h; exact ⟨h, hz⟩
      · cases hz
    obtain ⟨hS, hz⟩ := hS
    unfold xT at hz
    split at hz
    · rename_i l hl
      obtain ⟨hl2, rfl⟩ := gd_ok hz
      obtain ⟨a, rfl, ⟨d, h1, h2⟩ | ⟨_, h2⟩⟩ := hr
      · exact ⟨a, _, d, e.vs, .str (S y), rfl, e2.fh _ _ h1, e2.fh _ _ h2, by rw [vs_look, hl]; rfl, hx _, hno _ hS, q _ _ _ (Xt.refl e2.fh) ⟨rfl, hl2⟩⟩
      · rw [h2] at hl; cases hl
    · cases hz
/-- X(e).f: what was handed in, of any kind -/
theorem e_errF1 {m : M α} {r : Rl α} [Mono r] (hx : XfC K C) (hno : PySem.W.findIn K (.ref C) fl = some none) (ha : EvC w (ta σ) (fz r) m F H) : EvC w (tFldX K fl (tOexV C (sp_se1 C fl) (tCons ta tNil)) σ) (fz r) (m.bd fun x => .ok x) F H := by
  refine EvC.last (D := fun (v : V) H (Q : VK) => [v].length ≤ 1000 ∧ ∀ a, H a = none → sp_se1 C fl (.ref a :: ([v] ++ [])) (upd H a (exo a C none)) (fun v H2 => v = .non ∧ ∃ (d : Addr) (fs : List (Str × V)), H2 a = some (exo a C (some d)) ∧ H2 d = some (exd d fs) ∧ H d = none ∧ ∀ a' dx, some d = some dx → (upd (del H2 a) d (.xd fs)) a' = none → ∃ (a2 C2 d2 : Addr) (fs2 : List (Str × V)) (v2 : V), V.ref a' = .ref a2 ∧ (upd (upd (del H2 a) d (.xd fs)) a' (exo a' C (some dx))) a2 = some (exo a2 C2 (some d2)) ∧ (upd (upd (del H2 a) d (.xd fs)) a' (exo a' C (some dx))) d2 = some (.xd fs2) ∧ fs2.lookup fl = some v2 ∧ XfC K C2 ∧ PySem.W.findIn K (.ref C2) fl = some none ∧ Q v2 (upd (upd (del H2 a) d (.xd fs)) a' (exo a' C (some dx)))) (fun _ _ _ => False)) (R' := fz r) ha (fun _ => .inl ⟨_, rfl⟩) fun x y v F1 H1 F2 H2 hz e1 e2 hr Q q => ?_
  cases hz
  refine ⟨by simp, fun a' ha' => ⟨a', v, rfl, upd_same, fun dx hdx hne => ?_⟩⟩
  rw [upd_ne hne] at hdx
  refine ⟨rfl, dx, [(fl, v)], upd_same, by rw [upd_ne hne]; exact upd_same, hdx, ?_⟩
  rw [del_upd ha' hne]
  intro a dx' ed na
  cases ed
  have hda : dx ≠ a := fun z => by rw [z, upd_same] at na; cases na
  have e3 := ((Xt.refl e2.fh).newF hdx (o := .xd [(fl, v)])).newF na (o := exo a C (some dx))
  exact ⟨a, C, dx, [(fl, v)], v, rfl, upd_same, by rw [upd_ne hda, upd_same], by simp [List.lookup], hx, hno, q _ _ _ e3 (Mono.mono (r := r) e3.ff hr)⟩
theorem e_errF2a {m : M α} {n : M β} {r : Rl α} {s : Rl β} [Mono r] [Mono s] (hne' : (fl == fl') = false) (hx : XfC K C) (hno : PySem.W.findIn K (.ref C) fl = some none) (ha : EvC w (ta σ) (fz r) m F H) (hb : EvC w (tb σ) (fz s) n F H) : EvC w (tFldX K fl (tOexV C (sp_se2 C fl fl') (tCons ta (tCons tb tNil))) σ) (fz r) (m.bd fun x => n.bd fun y => .ok x) F H := by
  refine EvC.bind (D := fun (v : V) H (Q : VK) => tb σ H fun u H => [v, u].length ≤ 1000 ∧ ∀ a, H a = none → sp_se2 C fl fl' (.ref a :: ([v, u] ++ [])) (upd H a (exo a C none)) (fun v H2 => v = .non ∧ ∃ (d : Addr) (fs : List (Str × V)), H2 a = some (exo a C (some d)) ∧ H2 d = some (exd d fs) ∧ H d = none ∧ ∀ a' dx, some d = some dx → (upd (del H2 a) d (.xd fs)) a' = none → ∃ (a2 C2 d2 : Addr) (fs2 : List (Str × V)) (v2 : V), V.ref a' = .ref a2 ∧ (upd (upd (del H2 a) d (.xd fs)) a' (exo a' C (some dx))) a2 = some (exo a2 C2 (some d2)) ∧ (upd (upd (del H2 a) d (.xd fs)) a' (exo a' C (some dx))) d2 = some (.xd fs2) ∧ fs2.lookup fl = some v2 ∧ XfC K C2 ∧ PySem.W.findIn K (.ref C2) fl = some none ∧ Q v2 (upd (upd (del H2 a) d (.xd fs)) a' (exo a' C (some dx)))) (fun _ _ _ => False)) (R' := fz r) ha fun x v F1 H1 F2 H2 e1 e2 hr => ?_
  refine EvC.last (D := fun (u : V) H (Q : VK) => [v, u].length ≤ 1000 ∧ ∀ a, H a = none → sp_se2 C fl fl' (.ref a :: ([v, u] ++ [])) (upd H a (exo a C none)) (fun v H2 => v = .non ∧ ∃ (d : Addr) (fs : List (Str × V)), H2 a = some (exo a C (some d)) ∧ H2 d = some (exd d fs) ∧ H d = none ∧ ∀ a' dx, some d = some dx → (upd (del H2 a) d (.xd fs)) a' = none → ∃ (a2 C2 d2 : Addr) (fs2 : List (Str × V)) (v2 : V), V.ref a' = .ref a2 ∧ (upd (upd (del H2 a) d (.xd fs)) a' (exo a' C (some dx))) a2 = some (exo a2 C2 (some d2)) ∧ (upd (upd (del H2 a) d (.xd fs)) a' (exo a' C (some dx))) d2 = some (.xd fs2) ∧ fs2.lookup fl = some v2 ∧ XfC K C2 ∧ PySem.W.findIn K (.ref C2) fl = some none ∧ Q v2 (upd (upd (del H2 a) d (.xd fs)) a' (exo a' C (some dx)))) (fun _ _ _ => False)) (R' := fz r) (hb.up (e1.trans e2)) (fun _ => .inl ⟨_, rfl⟩) (fun y z u F3 H3 F4 H4 hz e3 e4 hs Q q => ?_) F2 H2 (Xt.refl e2.fh)
  cases hz
  refine ⟨by simp, fun a' ha' => ⟨a', v, u, rfl, upd_same, fun dx hdx hne => ?_⟩⟩
  rw [upd_ne hne] at hdx
  refine ⟨rfl, dx, [(fl', u), (fl, v)], by rw [upd_ne hne.symm]; exact upd_same, upd_same, hdx, ?_⟩
  rw [del_upd2 ha' hne]
  intro a dx' ed na
  cases ed
  have hda : dx ≠ a := fun z => by rw [z, upd_same] at na; cases na
  have e5 := ((Xt.refl e4.fh).newF hdx (o := .xd [(fl', u), (fl, v)])).newF na (o := exo a C (some dx))
  exact ⟨a, C, dx, [(fl', u), (fl, v)], v, rfl, upd_same, by rw [upd_ne hda, upd_same], by simp [List.lookup, hne'], hx, hno, q _ _ _ e5 (Mono.mono (r := r) ((e3.ff.trans e4.ff).trans e5.ff) hr)⟩
theorem e_errF2b {m : M α} {n : M β} {r : Rl α} {s : Rl β} [Mono r] [Mono s] (hne' : (fl == fl') = false) (hx : XfC K C) (hno : PySem.W.findIn K (.ref C) fl' = some none) (ha : EvC w (ta σ) (fz r) m F H) (hb : EvC w (tb σ) (fz s) n F H) : EvC w (tFldX K fl' (tOexV C (sp_se2 C fl fl') (tCons ta (tCons tb tNil))) σ) (fz s) (m.bd fun x => n.bd fun y => .ok y) F H := by
  refine EvC.bind (D := fun (v : V) H (Q : VK) => tb σ H fun u H => [v, u].length ≤ 1000 ∧ ∀ a, H a = none → sp_se2 C fl fl' (.ref a :: ([v, u] ++ [])) (upd H a (exo a C none)) (fun v H2 => v = .non ∧ ∃ (d : Addr) (fs : List (Str × V)), H2 a = some (exo a C (some d)) ∧ H2 d = some (exd d fs) ∧ H d = none ∧ ∀ a' dx, some d = some dx → (upd (del H2 a) d (.xd fs)) a' = none → ∃ (a2 C2 d2 : Addr) (fs2 : List (Str × V)) (v2 : V), V.ref a' = .ref a2 ∧ (upd (upd (del H2 a) d (.xd fs)) a' (exo a' C (some dx))) a2 = some (exo a2 C2 (some d2)) ∧ (upd (upd (del H2 a) d (.xd fs)) a' (exo a' C (some dx))) d2 = some (.xd fs2) ∧ fs2.lookup fl' = some v2 ∧ XfC K C2 ∧ PySem.W.findIn K (.ref C2) fl' = some none ∧ Q v2 (upd (upd (del H2 a) d (.xd fs)) a' (exo a' C (some dx)))) (fun _ _ _ => False)) (R' := fz s) ha fun x v F1 H1 F2 H2 e1 e2 hr => ?_
  refine EvC.last (D := fun (u : V) H (Q : VK) => [v, u].length ≤ 1000 ∧ ∀ a, H a = none → sp_se2 C fl fl' (.ref a :: ([v, u] ++ [])) (upd H a (exo a C none)) (fun v H2 => v = .non ∧ ∃ (d : Addr) (fs : List (Str × V)), H2 a = some (exo a C (some d)) ∧ H2 d = some (exd d fs) ∧ H d = none ∧ ∀ a' dx, some d = some dx → (upd (del H2 a) d (.xd fs)) a' = none → ∃ (a2 C2 d2 : Addr) (fs2 : List (Str × V)) (v2 : V), V.ref a' = .ref a2 ∧ (upd (upd (del H2 a) d (.xd fs)) a' (exo a' C (some dx))) a2 = some (exo a2 C2 (some d2)) ∧ (upd (upd (del H2 a) d (.xd fs)) a' (exo a' C (some dx))) d2 = some (.xd fs2) ∧ fs2.lookup fl' = some v2 ∧ XfC K C2 ∧ PySem.W.findIn K (.ref C2) fl' = some none ∧ Q v2 (upd (upd (del H2 a) d (.xd fs)) a' (exo a' C (some dx)))) (fun _ _ _ => False)) (R' := fz s) (hb.up (e1.trans e2)) (fun _ => .inl ⟨_, rfl⟩) (fun y z u F3 H3 F4 H4 hz e3 e4 hs Q q => ?_) F2 H2 (Xt.refl e2.fh)
  cases hz
  refine ⟨by simp, fun a' ha' => ⟨a', v, u, rfl, upd_same, fun dx hdx hne => ?_⟩⟩
  rw [upd_ne hne] at hdx
  refine ⟨rfl, dx, [(fl', u), (fl, v)], by rw [upd_ne hne.symm]; exact upd_same, upd_same, hdx, ?_⟩
  rw [del_upd2 ha' hne]
  intro a dx' ed na
  cases ed
  have hda : dx ≠ a := fun z => by rw [z, upd_same] at na; cases na
  have e5 := ((Xt.refl e4.fh).newF hdx (o := .xd [(fl', u), (fl, v)])).newF na (o := exo a C (some dx))
  exact ⟨a, C, dx, [(fl', u), (fl, v)], u, rfl, upd_same, by rw [upd_ne hda, upd_same], by simp [List.lookup], hx, hno, q _ _ _ e5 (Mono.mono (r := s) e5.ff hs)⟩
/-- isinstance(e, c) -/
theorem e_isX {m : M Ex} {c : V} {cv : Value} {b : Nat → Bool} (hx : ∀ n, ExcC K (cl n)) (hc : ∀ u, RelV c u → u = cv) (hk : ∀ n, PySem.W.kitOne K (.ref (cl n)) cv = some (b n)) (ha : EvC w (te σ) (fz (rEx cl)) m F H) :
    EvC w (tCB (rIsX K) (tCons te (tCons (tC c) tNil)) σ) (fz rB) (m.bd fun e => .ok (b e.cls)) F H := by
  refine EvC.last (D := fun (x : V) H1 (Q : VK) => rIsX K [x, c] H1 Q) (R' := fz rB) ha (fun e => .inl ⟨_, rfl⟩) fun e y v F1 H1 F2 H2 hz e1 e2 hr Q q => ?_
  cases hz
  obtain ⟨a, rfl, ⟨d, h1, h2⟩ | ⟨h1, _⟩⟩ := hr
  · exact ⟨a, _, c, cv, b e.cls, rfl, .inl ⟨d, e.vs, e2.fh _ _ h1, e2.fh _ _ h2⟩, hx _, hc, hk _, q _ _ _ (Xt.refl e2.fh) rfl⟩
  · exact ⟨a, _, c, cv, b e.cls, rfl, .inr (e2.fh _ _ h1), hx _, hc, hk _, q _ _ _ (Xt.refl e2.fh) rfl⟩
end
end SF
/-! ### a number or a text -/
namespace SF
open PySem PySem.Spec PyProof.Rows L2
abbrev IT : Type := Sum Int (List Nat)
def qV : Rl IT := fun _ v x => match x with
  | .inl i => v = .int i
  | .inr s => v = .str (S s) ∧ s.length ≤ sizeLine
instance : Mono qV := ⟨fun {F F' v x} _ h => by cases x <;> exact h⟩
instance : Scl qV := ⟨fun {F v u x y} h1 h2 => by
  cases x with
  | inl i =>
    cases y with
    | inl j =>
      rw [show v = _ from h1, show u = _ from h2]
      exact ⟨rfl, fun h => by injection h with h; rw [h], fun h => by rw [Sum.inl.inj h]⟩
    | inr t =>
      rw [show v = _ from h1, h2.1]
      exact ⟨rfl, fun h => (by cases h), fun h => (by cases h)⟩
  | inr s =>
    cases y with
    | inl j =>
      rw [h1.1, show u = _ from h2]
      exact ⟨rfl, fun h => (by cases h), fun h => (by cases h)⟩
    | inr t =>
      rw [h1.1, h2.1]
      exact ⟨rfl, fun h => by injection h with h; rw [S_inj.mp h], fun h => by rw [Sum.inr.inj h]⟩⟩
instance deepV : Deep qV where
  pd x := match x with
    | .inl i => .int i
    | .inr s => .str (S s)
  okd x := match x with
    | .inl _ => true
    | .inr s => s.all fun c => decide (c < 1114112)
  dmax := 0
  dp := fun {K F H v x} _ h => by
    cases x with
    | inl i => rw [show _ = _ from h]; exact .int _
    | inr s => rw [h.1]; exact .str _
  lay := fun {x} h => by
    cases x with
    | inl i => rfl
    | inr s => exact strOk_le h
  dep := fun x => by cases x <;> exact Nat.le_refl _
  eqv := fun x y => by
    cases x with
    | inl i =>
      cases y with
      | inl j =>
        show (i == j) = _
        by_cases h : i = j
        · subst h; simp
        · rw [decide_eq_false (by simpa using h)]; simpa using h
      | inr t => rw [decide_eq_false (by simp)]; rfl
    | inr s =>
      cases y with
      | inl j => rw [decide_eq_false (by simp)]; rfl
      | inr t =>
        show PyData.eqv (.str (S s)) (.str (S t)) = _
        rw [eqv_str]
        exact decide_eq_decide.mpr ⟨fun h => by rw [h], fun h => Sum.inr.inj h⟩
section
variable {w : Xw} {F H : Hp}
theorem e_inl {C : Hp → (V → Hp → Prop) → Prop} {m : M Int} (h : EvC w C (fz rI) m F H) : EvC w C (fz qV) (m.bd fun x => .ok (Sum.inl x : IT)) F H := e_cv h fun F v x h => h
theorem e_inr {C : Hp → (V → Hp → Prop) → Prop} {m : M (List Nat)} (h : EvC w C (fz qS) m F H) : EvC w C (fz qV) (m.bd fun x => .ok (Sum.inr x : IT)) F H := e_cv h fun F v x h => h
end
theorem e_isiV {w : Xw} {σ : L2.St} {F H : Hp} {K : PySem.W.Frag} {ta : TE} {c : String} {b1 b2 : Bool} {m : M IT} (h1 : L2.kitB "int" c = some b1) (h2 : L2.kitB "str" c = some b2) (ha : EvC w (ta σ) (fz qV) m F H) : EvC w (tCB (rIsi K) (tCons ta (tCons (tC (.ty c)) tNil)) σ) (fz rB) (m.bd fun x => .ok (Sum.elim (fun _ => b1) (fun _ => b2) x)) F H :=
  EvC.last (D := fun (v : V) H (Q : VK) => rIsi K [v, .ty c] H Q) (R' := fz rB) ha (fun _ => .inl ⟨_, rfl⟩) fun x y v F1 H1 F2 H2 hz e1 e2 hr Q q => by
    cases hz
    cases x with
    | inl i => exact ⟨_, _, _, _, b1, rfl, .ty c, Kd.kd (R := fz rI) (t := "int") (H0 := H2) (x := i) e2.fh hr, kit_ty h1, q _ _ _ (Xt.refl e2.fh) rfl⟩
    | inr s => exact ⟨_, _, _, _, b2, rfl, .ty c, Kd.kd (R := fz qS) (t := "str") (H0 := H2) (x := s) e2.fh hr, kit_ty h2, q _ _ _ (Xt.refl e2.fh) rfl⟩
/-! None, a text, or two numbers -/
abbrev Wt : Type := Option (Sum (List Nat) (Int × Int))
def qW : Rl Wt := fun F v x => match x with
  | none => v = .non
  | some (.inl s) => v = .str (S s) ∧ s.length ≤ sizeLine
  | some (.inr p) => rP rI rI F v p
instance : Mono qW := ⟨fun {F F' v x} s h => by
  match x with
  | none => exact h
  | some (.inl _) => exact h
  | some (.inr p) => exact Mono.mono (r := rP rI rI) s h⟩
instance deepW : Deep qW where
  pd x := match x with
    | none => .none
    | some (.inl s) => .str (S s)
    | some (.inr p) => .tuple [.int p.1, .int p.2]
  okd x := match x with
    | some (.inl s) => s.all fun c => decide (c < 1114112)
    | _ => true
  dmax := 1
  dp := fun {K F H v x} e h => by
    match x with
    | none => rw [show _ = _ from h]; exact .non
    | some (.inl s) => rw [h.1]; exact .str _
    | some (.inr p) => exact Deep.dp (r := rP rI rI) e h
  lay := fun {x} h => by
    match x with
    | none => rfl
    | some (.inl s) => exact strOk_le h
    | some (.inr p) => rfl
  dep := fun x => by
    match x with
    | none => exact Nat.zero_le _
    | some (.inl s) => exact Nat.zero_le _
    | some (.inr p) => exact Deep.dep (r := rP rI rI) p
  eqv := fun x y => by
    match x, y with
    | none, none => rfl
    | none, some (.inl t) => rfl
    | none, some (.inr q) => rfl
    | some (.inl s), none => rfl
    | some (.inl s), some (.inl t) =>
      show PyData.eqv (.str (S s)) (.str (S t)) = _
      rw [eqv_str]
      exact decide_eq_decide.mpr ⟨fun h => by rw [h], fun h => Sum.inl.inj (Option.some.inj h)⟩
    | some (.inl s), some (.inr q) => rw [decide_eq_false (by simp)]; rfl
    | some (.inr p), none => rfl
    | some (.inr p), some (.inl t) => rw [decide_eq_false (by simp)]; rfl
    | some (.inr p), some (.inr q) =>
      have := Deep.eqv (r := rP rI rI) p q
      refine Eq.trans ?_ (this.trans (decide_eq_decide.mpr ⟨fun h => by rw [h], fun h => Sum.inr.inj (Option.some.inj h)⟩))
      rfl
section
variable {w : Xw} {F H : Hp}
theorem e_W0 {C : Hp → (V → Hp → Prop) → Prop} {m : M Unit} (h : EvC w C (fz qN) m F H) : EvC w C (fz qW) (m.bd fun _ => .ok (none : Wt)) F H := e_cv h fun F v x h => h
theorem e_W1 {C : Hp → (V → Hp → Prop) → Prop} {m : M (List Nat)} (h : EvC w C (fz qS) m F H) : EvC w C (fz qW) (m.bd fun x => .ok (some (Sum.inl x) : Wt)) F H := e_cv h fun F v x h => h
theorem e_W2 {C : Hp → (V → Hp → Prop) → Prop} {m : M (Int × Int)} (h : EvC w C (fz (rP rI rI)) m F H) : EvC w C (fz qW) (m.bd fun x => .ok (some (Sum.inr x) : Wt)) F H := e_cv h fun F v x h => h
end
end SF
namespace SF
open PySem PySem.Spec PyProof.Rows L2
def top (i : Nat) : Stmt := PySem.Challenge.pw_surefaults_k04_errors.main.body.getD i (.Pass ⟨0, 0, 0, 0⟩)
abbrev s__law_cell : Stmt := top 18
abbrev n__law_cell : List Str := ["_law_script", "_law_k"]
theorem sc__law_cell : FnScope n__law_cell ["_law_script", "_law_k"] (defScope s__law_cell) := ⟨rfl, rfl, rfl, by decide +kernel, rfl, by decide +kernel, by decide +kernel⟩
abbrev s__law_is_number : Stmt := top 19
abbrev n__law_is_number : List Str := ["_law_x"]
theorem sc__law_is_number : FnScope n__law_is_number ["_law_x"] (defScope s__law_is_number) := ⟨rfl, rfl, rfl, by decide +kernel, rfl, by decide +kernel, by decide +kernel⟩
abbrev s__law_kinds : Stmt := top 20
abbrev n__law_kinds : List Str := ["_law_e"]
theorem sc__law_kinds : FnScope n__law_kinds ["_law_e"] (defScope s__law_kinds) := ⟨rfl, rfl, rfl, by decide +kernel, rfl, by decide +kernel, by decide +kernel⟩
abbrev s__law_same : Stmt := top 21
abbrev n__law_same : List Str := ["_law_told", "_law_due"]
theorem sc__law_same : FnScope n__law_same ["_law_told", "_law_due"] (defScope s__law_same) := ⟨rfl, rfl, rfl, by decide +kernel, rfl, by decide +kernel, by decide +kernel⟩
abbrev s__law_any_kept : Stmt := top 22
abbrev n__law_any_kept : List Str := ["_law_worth", "_law_told", "_law_k"]
theorem sc__law_any_kept : FnScope n__law_any_kept ["_law_worth"] (defScope s__law_any_kept) := ⟨rfl, rfl, rfl, by decide +kernel, rfl, by decide +kernel, by decide +kernel⟩
abbrev s_law : Stmt := top 23
abbrev n_law : List Str := ["_law_script", "_law_number", "_law_other", "_law_signs", "_law_at", "_law_text", "_law_made", "_law_k", "_law_e", "_law_told", "_law_worth", "_law_j", "_law_x"]
theorem sc_law : FnScope n_law ["_law_script"] (defScope s_law) := ⟨rfl, rfl, rfl, by decide +kernel, rfl, by decide +kernel, by decide +kernel⟩
abbrev s_BadCount___init__ : Stmt := inClass (top 2) 0
theorem ns_BadCount : NdefX.NScope ["self", "count", "__class__"] ["self", "count"] ["__class__"] (defScope s_BadCount___init__) := NdefX.nscope_by (by decide +kernel)
abbrev s_BadRule___init__ : Stmt := inClass (top 3) 0
theorem ns_BadRule : NdefX.NScope ["self", "number", "__class__"] ["self", "number"] ["__class__"] (defScope s_BadRule___init__) := NdefX.nscope_by (by decide +kernel)
abbrev s_BadLine___init__ : Stmt := inClass (top 4) 0
theorem ns_BadLine : NdefX.NScope ["self", "line", "__class__"] ["self", "line"] ["__class__"] (defScope s_BadLine___init__) := NdefX.nscope_by (by decide +kernel)
abbrev s_UnknownName___init__ : Stmt := inClass (top 5) 0
theorem ns_UnknownName : NdefX.NScope ["self", "name", "__class__"] ["self", "name"] ["__class__"] (defScope s_UnknownName___init__) := NdefX.nscope_by (by decide +kernel)
abbrev s_NoValidText___init__ : Stmt := inClass (top 6) 0
theorem ns_NoValidText : NdefX.NScope ["self", "__class__"] ["self"] ["__class__"] (defScope s_NoValidText___init__) := NdefX.nscope_by (by decide +kernel)
abbrev s_TooLong___init__ : Stmt := inClass (top 7) 0
theorem ns_TooLong : NdefX.NScope ["self", "length", "__class__"] ["self", "length"] ["__class__"] (defScope s_TooLong___init__) := NdefX.nscope_by (by decide +kernel)
abbrev s_TooManySteps___init__ : Stmt := inClass (top 8) 0
theorem ns_TooManySteps : NdefX.NScope ["self", "count", "__class__"] ["self", "count"] ["__class__"] (defScope s_TooManySteps___init__) := NdefX.nscope_by (by decide +kernel)
abbrev s_BadSign___init__ : Stmt := inClass (top 9) 0
theorem ns_BadSign : NdefX.NScope ["self", "index", "__class__"] ["self", "index"] ["__class__"] (defScope s_BadSign___init__) := NdefX.nscope_by (by decide +kernel)
abbrev s_BadIndex___init__ : Stmt := inClass (top 10) 0
theorem ns_BadIndex : NdefX.NScope ["self", "index", "__class__"] ["self", "index"] ["__class__"] (defScope s_BadIndex___init__) := NdefX.nscope_by (by decide +kernel)
abbrev s_BadSpan___init__ : Stmt := inClass (top 11) 0
theorem ns_BadSpan : NdefX.NScope ["self", "start", "end", "__class__"] ["self", "start", "end"] ["__class__"] (defScope s_BadSpan___init__) := NdefX.nscope_by (by decide +kernel)
abbrev s_Impossible___init__ : Stmt := inClass (top 12) 0
theorem ns_Impossible : NdefX.NScope ["self", "fragment", "__class__"] ["self", "fragment"] ["__class__"] (defScope s_Impossible___init__) := NdefX.nscope_by (by decide +kernel)
abbrev s_NoFault___init__ : Stmt := inClass (top 13) 0
theorem ns_NoFault : NdefX.NScope ["self", "index", "__class__"] ["self", "index"] ["__class__"] (defScope s_NoFault___init__) := NdefX.nscope_by (by decide +kernel)
abbrev s_OutsideWindow___init__ : Stmt := inClass (top 14) 0
theorem ns_OutsideWindow : NdefX.NScope ["self", "place", "__class__"] ["self", "place"] ["__class__"] (defScope s_OutsideWindow___init__) := NdefX.nscope_by (by decide +kernel)
abbrev s_WrongText___init__ : Stmt := inClass (top 15) 0
theorem ns_WrongText : NdefX.NScope ["self", "count", "__class__"] ["self", "count"] ["__class__"] (defScope s_WrongText___init__) := NdefX.nscope_by (by decide +kernel)
abbrev s_RowEnded___init__ : Stmt := inClass (top 16) 0
theorem ns_RowEnded : NdefX.NScope ["self", "__class__"] ["self"] ["__class__"] (defScope s_RowEnded___init__) := NdefX.nscope_by (by decide +kernel)
abbrev PW : Program := PySem.Challenge.pw_surefaults_k04_errors
structure Ad where
  _law_cell : Addr
  d__law_cell : FuncData
  _law_is_number : Addr
  d__law_is_number : FuncData
  _law_kinds : Addr
  d__law_kinds : FuncData
  _law_same : Addr
  d__law_same : FuncData
  _law_any_kept : Addr
  d__law_any_kept : FuncData
  law : Addr
  d_law : FuncData
  BadCount : Addr
  BadCount___init__ : Addr
  d_BadCount___init__ : FuncData
  cc_BadCount : Addr
  cd_BadCount : Addr
  BadRule : Addr
  BadRule___init__ : Addr
  d_BadRule___init__ : FuncData
  cc_BadRule : Addr
  cd_BadRule : Addr
  BadLine : Addr
  BadLine___init__ : Addr
  d_BadLine___init__ : FuncData
  cc_BadLine : Addr
  cd_BadLine : Addr
  UnknownName : Addr
  UnknownName___init__ : Addr
  d_UnknownName___init__ : FuncData
  cc_UnknownName : Addr
  cd_UnknownName : Addr
  NoValidText : Addr
  NoValidText___init__ : Addr
  d_NoValidText___init__ : FuncData
  cc_NoValidText : Addr
  cd_NoValidText : Addr
  TooLong : Addr
  TooLong___init__ : Addr
  d_TooLong___init__ : FuncData
  cc_TooLong : Addr
  cd_TooLong : Addr
  TooManySteps : Addr
  TooManySteps___init__ : Addr
  d_TooManySteps___init__ : FuncData
  cc_TooManySteps : Addr
  cd_TooManySteps : Addr
  BadSign : Addr
  BadSign___init__ : Addr
  d_BadSign___init__ : FuncData
  cc_BadSign : Addr
  cd_BadSign : Addr
  BadIndex : Addr
  BadIndex___init__ : Addr
  d_BadIndex___init__ : FuncData
  cc_BadIndex : Addr
  cd_BadIndex : Addr
  BadSpan : Addr
  BadSpan___init__ : Addr
  d_BadSpan___init__ : FuncData
  cc_BadSpan : Addr
  cd_BadSpan : Addr
  Impossible : Addr
  Impossible___init__ : Addr
  d_Impossible___init__ : FuncData
  cc_Impossible : Addr
  cd_Impossible : Addr
  NoFault : Addr
  NoFault___init__ : Addr
  d_NoFault___init__ : FuncData
  cc_NoFault : Addr
  cd_NoFault : Addr
  OutsideWindow : Addr
  OutsideWindow___init__ : Addr
  d_OutsideWindow___init__ : FuncData
  cc_OutsideWindow : Addr
  cd_OutsideWindow : Addr
  WrongText : Addr
  WrongText___init__ : Addr
  d_WrongText___init__ : FuncData
  cc_WrongText : Addr
  cd_WrongText : Addr
  RowEnded : Addr
  RowEnded___init__ : Addr
  d_RowEnded___init__ : FuncData
  cc_RowEnded : Addr
  cd_RowEnded : Addr
  SureError : Addr
def nrm (n : Nat) : Nat := match n with
  | 0 => 0
  | 1 => 1
  | 2 => 2
  | 3 => 3
  | 4 => 4
  | 5 => 5
  | 6 => 6
  | 7 => 7
  | 8 => 8
  | 9 => 9
  | 10 => 10
  | 11 => 11
  | 12 => 12
  | 13 => 13
  | 14 => 14
  | _ => 0
theorem nrm_or (n : Nat) : nrm n = 0 ∨ nrm n = 1 ∨ nrm n = 2 ∨ nrm n = 3 ∨ nrm n = 4 ∨ nrm n = 5 ∨ nrm n = 6 ∨ nrm n = 7 ∨ nrm n = 8 ∨ nrm n = 9 ∨ nrm n = 10 ∨ nrm n = 11 ∨ nrm n = 12 ∨ nrm n = 13 ∨ nrm n = 14 := by unfold nrm; split <;> simp
def clB (a : Ad) (n : Nat) : Addr := match n with
  | 0 => a.BadCount
  | 1 => a.BadRule
  | 2 => a.BadLine
  | 3 => a.UnknownName
  | 4 => a.NoValidText
  | 5 => a.TooLong
  | 6 => a.TooManySteps
  | 7 => a.BadSign
  | 8 => a.BadIndex
  | 9 => a.BadSpan
  | 10 => a.Impossible
  | 11 => a.NoFault
  | 12 => a.OutsideWindow
  | 13 => a.WrongText
  | 14 => a.RowEnded
  | _ => a.BadCount
def clA (a : Ad) (n : Nat) : Addr := clB a (nrm n)
structure Txt (K : PySem.W.Frag) (mg : Str → Option Value) (a : Ad) : Prop where
  z_len : mg "len" = none
  z_all : mg "all" = none
  z_sum : mg "sum" = none
  z_sorted : mg "sorted" = none
  z_set : mg "set" = none
  z_range : mg "range" = none
  z_enumerate : mg "enumerate" = none
  z_max : mg "max" = none
  z_list : mg "list" = none
  z_int : mg "int" = none
  z_isinstance : mg "isinstance" = none
  z_str : mg "str" = none
  z_any : mg "any" = none
  z_bool : mg "bool" = none
  z_ValueError : mg "ValueError" = none
  f__law_cell : Fun K "_law_cell" "_law_cell" s__law_cell a._law_cell a.d__law_cell
  b__law_cell : Binds K a.d__law_cell ["_law_script", "_law_k"] []
  m__law_cell : mg "_law_cell" = some (.ref a._law_cell)
  f__law_is_number : Fun K "_law_is_number" "_law_is_number" s__law_is_number a._law_is_number a.d__law_is_number
  b__law_is_number : Binds K a.d__law_is_number ["_law_x"] []
  m__law_is_number : mg "_law_is_number" = some (.ref a._law_is_number)
  f__law_kinds : Fun K "_law_kinds" "_law_kinds" s__law_kinds a._law_kinds a.d__law_kinds
  b__law_kinds : Binds K a.d__law_kinds ["_law_e"] []
  m__law_kinds : mg "_law_kinds" = some (.ref a._law_kinds)
  f__law_same : Fun K "_law_same" "_law_same" s__law_same a._law_same a.d__law_same
  b__law_same : Binds K a.d__law_same ["_law_told", "_law_due"] []
  m__law_same : mg "_law_same" = some (.ref a._law_same)
  f__law_any_kept : Fun K "_law_any_kept" "_law_any_kept" s__law_any_kept a._law_any_kept a.d__law_any_kept
  b__law_any_kept : Binds K a.d__law_any_kept ["_law_worth"] []
  m__law_any_kept : mg "_law_any_kept" = some (.ref a._law_any_kept)
  f_law : Fun K "law" "law" s_law a.law a.d_law
  b_law : Binds K a.d_law ["_law_script"] []
  m_law : mg "law" = some (.ref a.law)
  m_BadCount : mg "BadCount" = some (.ref a.BadCount)
  se_BadCount : SeC PW K mg "BadCount.__init__" s_BadCount___init__ a.BadCount a.BadCount___init__ a.cc_BadCount a.cd_BadCount a.d_BadCount___init__
  b_BadCount___init__ : Binds K a.d_BadCount___init__ ["self", "count"] []
  no_BadCount_count : PySem.W.findIn K (.ref a.BadCount) "count" = some none
  xf_BadCount : XfC K a.BadCount
  m_BadRule : mg "BadRule" = some (.ref a.BadRule)
  se_BadRule : SeC PW K mg "BadRule.__init__" s_BadRule___init__ a.BadRule a.BadRule___init__ a.cc_BadRule a.cd_BadRule a.d_BadRule___init__
  b_BadRule___init__ : Binds K a.d_BadRule___init__ ["self", "number"] []
  no_BadRule_number : PySem.W.findIn K (.ref a.BadRule) "number" = some none
  xf_BadRule : XfC K a.BadRule
  m_BadLine : mg "BadLine" = some (.ref a.BadLine)
  se_BadLine : SeC PW K mg "BadLine.__init__" s_BadLine___init__ a.BadLine a.BadLine___init__ a.cc_BadLine a.cd_BadLine a.d_BadLine___init__
  b_BadLine___init__ : Binds K a.d_BadLine___init__ ["self", "line"] []
  no_BadLine_line : PySem.W.findIn K (.ref a.BadLine) "line" = some none
  xf_BadLine : XfC K a.BadLine
  m_UnknownName : mg "UnknownName" = some (.ref a.UnknownName)
  se_UnknownName : SeC PW K mg "UnknownName.__init__" s_UnknownName___init__ a.UnknownName a.UnknownName___init__ a.cc_UnknownName a.cd_UnknownName a.d_UnknownName___init__
  b_UnknownName___init__ : Binds K a.d_UnknownName___init__ ["self", "name"] []
  no_UnknownName_name : PySem.W.findIn K (.ref a.UnknownName) "name" = some none
  xf_UnknownName : XfC K a.UnknownName
  m_NoValidText : mg "NoValidText" = some (.ref a.NoValidText)
  se_NoValidText : SeC PW K mg "NoValidText.__init__" s_NoValidText___init__ a.NoValidText a.NoValidText___init__ a.cc_NoValidText a.cd_NoValidText a.d_NoValidText___init__
  b_NoValidText___init__ : Binds K a.d_NoValidText___init__ ["self"] []
  xf_NoValidText : XfC K a.NoValidText
  m_TooLong : mg "TooLong" = some (.ref a.TooLong)
  se_TooLong : SeC PW K mg "TooLong.__init__" s_TooLong___init__ a.TooLong a.TooLong___init__ a.cc_TooLong a.cd_TooLong a.d_TooLong___init__
  b_TooLong___init__ : Binds K a.d_TooLong___init__ ["self", "length"] []
  no_TooLong_length : PySem.W.findIn K (.ref a.TooLong) "length" = some none
  xf_TooLong : XfC K a.TooLong
  m_TooManySteps : mg "TooManySteps" = some (.ref a.TooManySteps)
  se_TooManySteps : SeC PW K mg "TooManySteps.__init__" s_TooManySteps___init__ a.TooManySteps a.TooManySteps___init__ a.cc_TooManySteps a.cd_TooManySteps a.d_TooManySteps___init__
  b_TooManySteps___init__ : Binds K a.d_TooManySteps___init__ ["self", "count"] []
  no_TooManySteps_count : PySem.W.findIn K (.ref a.TooManySteps) "count" = some none
  xf_TooManySteps : XfC K a.TooManySteps
  m_BadSign : mg "BadSign" = some (.ref a.BadSign)
  se_BadSign : SeC PW K mg "BadSign.__init__" s_BadSign___init__ a.BadSign a.BadSign___init__ a.cc_BadSign a.cd_BadSign a.d_BadSign___init__
  b_BadSign___init__ : Binds K a.d_BadSign___init__ ["self", "index"] []
  no_BadSign_index : PySem.W.findIn K (.ref a.BadSign) "index" = some none
  xf_BadSign : XfC K a.BadSign
  m_BadIndex : mg "BadIndex" = some (.ref a.BadIndex)
  se_BadIndex : SeC PW K mg "BadIndex.__init__" s_BadIndex___init__ a.BadIndex a.BadIndex___init__ a.cc_BadIndex a.cd_BadIndex a.d_BadIndex___init__
  b_BadIndex___init__ : Binds K a.d_BadIndex___init__ ["self", "index"] []
  no_BadIndex_index : PySem.W.findIn K (.ref a.BadIndex) "index" = some none
  xf_BadIndex : XfC K a.BadIndex
  m_BadSpan : mg "BadSpan" = some (.ref a.BadSpan)
  se_BadSpan : SeC PW K mg "BadSpan.__init__" s_BadSpan___init__ a.BadSpan a.BadSpan___init__ a.cc_BadSpan a.cd_BadSpan a.d_BadSpan___init__
  b_BadSpan___init__ : Binds K a.d_BadSpan___init__ ["self", "start", "end"] []
  no_BadSpan_start : PySem.W.findIn K (.ref a.BadSpan) "start" = some none
  no_BadSpan_end : PySem.W.findIn K (.ref a.BadSpan) "end" = some none
  xf_BadSpan : XfC K a.BadSpan
  m_Impossible : mg "Impossible" = some (.ref a.Impossible)
  se_Impossible : SeC PW K mg "Impossible.__init__" s_Impossible___init__ a.Impossible a.Impossible___init__ a.cc_Impossible a.cd_Impossible a.d_Impossible___init__
  b_Impossible___init__ : Binds K a.d_Impossible___init__ ["self", "fragment"] []
  no_Impossible_fragment : PySem.W.findIn K (.ref a.Impossible) "fragment" = some none
  xf_Impossible : XfC K a.Impossible
  m_NoFault : mg "NoFault" = some (.ref a.NoFault)
  se_NoFault : SeC PW K mg "NoFault.__init__" s_NoFault___init__ a.NoFault a.NoFault___init__ a.cc_NoFault a.cd_NoFault a.d_NoFault___init__
  b_NoFault___init__ : Binds K a.d_NoFault___init__ ["self", "index"] []
  no_NoFault_index : PySem.W.findIn K (.ref a.NoFault) "index" = some none
  xf_NoFault : XfC K a.NoFault
  m_OutsideWindow : mg "OutsideWindow" = some (.ref a.OutsideWindow)
  se_OutsideWindow : SeC PW K mg "OutsideWindow.__init__" s_OutsideWindow___init__ a.OutsideWindow a.OutsideWindow___init__ a.cc_OutsideWindow a.cd_OutsideWindow a.d_OutsideWindow___init__
  b_OutsideWindow___init__ : Binds K a.d_OutsideWindow___init__ ["self", "place"] []
  no_OutsideWindow_place : PySem.W.findIn K (.ref a.OutsideWindow) "place" = some none
  xf_OutsideWindow : XfC K a.OutsideWindow
  m_WrongText : mg "WrongText" = some (.ref a.WrongText)
  se_WrongText : SeC PW K mg "WrongText.__init__" s_WrongText___init__ a.WrongText a.WrongText___init__ a.cc_WrongText a.cd_WrongText a.d_WrongText___init__
  b_WrongText___init__ : Binds K a.d_WrongText___init__ ["self", "count"] []
  no_WrongText_count : PySem.W.findIn K (.ref a.WrongText) "count" = some none
  xf_WrongText : XfC K a.WrongText
  m_RowEnded : mg "RowEnded" = some (.ref a.RowEnded)
  se_RowEnded : SeC PW K mg "RowEnded.__init__" s_RowEnded___init__ a.RowEnded a.RowEnded___init__ a.cc_RowEnded a.cd_RowEnded a.d_RowEnded___init__
  b_RowEnded___init__ : Binds K a.d_RowEnded___init__ ["self"] []
  xf_RowEnded : XfC K a.RowEnded
  m_SureError : mg "SureError" = some (.ref a.SureError)
  xc_BadCount : ExcC K a.BadCount
  kx_BadCount : ∀ n, PySem.W.kitOne K (.ref (clA a n)) (.ref a.BadCount) = some (decide (nrm n = 0))
  xc_BadRule : ExcC K a.BadRule
  kx_BadRule : ∀ n, PySem.W.kitOne K (.ref (clA a n)) (.ref a.BadRule) = some (decide (nrm n = 1))
  xc_BadLine : ExcC K a.BadLine
  kx_BadLine : ∀ n, PySem.W.kitOne K (.ref (clA a n)) (.ref a.BadLine) = some (decide (nrm n = 2))
  xc_UnknownName : ExcC K a.UnknownName
  kx_UnknownName : ∀ n, PySem.W.kitOne K (.ref (clA a n)) (.ref a.UnknownName) = some (decide (nrm n = 3))
  xc_NoValidText : ExcC K a.NoValidText
  kx_NoValidText : ∀ n, PySem.W.kitOne K (.ref (clA a n)) (.ref a.NoValidText) = some (decide (nrm n = 4))
  xc_TooLong : ExcC K a.TooLong
  kx_TooLong : ∀ n, PySem.W.kitOne K (.ref (clA a n)) (.ref a.TooLong) = some (decide (nrm n = 5))
  xc_TooManySteps : ExcC K a.TooManySteps
  kx_TooManySteps : ∀ n, PySem.W.kitOne K (.ref (clA a n)) (.ref a.TooManySteps) = some (decide (nrm n = 6))
  xc_BadSign : ExcC K a.BadSign
  kx_BadSign : ∀ n, PySem.W.kitOne K (.ref (clA a n)) (.ref a.BadSign) = some (decide (nrm n = 7))
  xc_BadIndex : ExcC K a.BadIndex
  kx_BadIndex : ∀ n, PySem.W.kitOne K (.ref (clA a n)) (.ref a.BadIndex) = some (decide (nrm n = 8))
  xc_BadSpan : ExcC K a.BadSpan
  kx_BadSpan : ∀ n, PySem.W.kitOne K (.ref (clA a n)) (.ref a.BadSpan) = some (decide (nrm n = 9))
  xc_Impossible : ExcC K a.Impossible
  kx_Impossible : ∀ n, PySem.W.kitOne K (.ref (clA a n)) (.ref a.Impossible) = some (decide (nrm n = 10))
  xc_NoFault : ExcC K a.NoFault
  kx_NoFault : ∀ n, PySem.W.kitOne K (.ref (clA a n)) (.ref a.NoFault) = some (decide (nrm n = 11))
  xc_OutsideWindow : ExcC K a.OutsideWindow
  kx_OutsideWindow : ∀ n, PySem.W.kitOne K (.ref (clA a n)) (.ref a.OutsideWindow) = some (decide (nrm n = 12))
  xc_WrongText : ExcC K a.WrongText
  kx_WrongText : ∀ n, PySem.W.kitOne K (.ref (clA a n)) (.ref a.WrongText) = some (decide (nrm n = 13))
  xc_RowEnded : ExcC K a.RowEnded
  kx_RowEnded : ∀ n, PySem.W.kitOne K (.ref (clA a n)) (.ref a.RowEnded) = some (decide (nrm n = 14))
  kx_SureError : ∀ n, PySem.W.kitOne K (.ref (clA a n)) (.ref a.SureError) = some true
  kx_ValueError : ∀ n, PySem.W.kitOne K (.ref (clA a n)) (.type "ValueError") = some true
theorem xf_all {K : PySem.W.Frag} {mg : Str → Option Value} {a : Ad} (T : Txt K mg a) (n : Nat) : XfC K (clA a n) := by
  unfold clA
  rcases nrm_or n with h | h | h | h | h | h | h | h | h | h | h | h | h | h | h
  · rw [h]; exact T.xf_BadCount
  · rw [h]; exact T.xf_BadRule
  · rw [h]; exact T.xf_BadLine
  · rw [h]; exact T.xf_UnknownName
  · rw [h]; exact T.xf_NoValidText
  · rw [h]; exact T.xf_TooLong
  · rw [h]; exact T.xf_TooManySteps
  · rw [h]; exact T.xf_BadSign
  · rw [h]; exact T.xf_BadIndex
  · rw [h]; exact T.xf_BadSpan
  · rw [h]; exact T.xf_Impossible
  · rw [h]; exact T.xf_NoFault
  · rw [h]; exact T.xf_OutsideWindow
  · rw [h]; exact T.xf_WrongText
  · rw [h]; exact T.xf_RowEnded
theorem xc_all {K : PySem.W.Frag} {mg : Str → Option Value} {a : Ad} (T : Txt K mg a) (n : Nat) : ExcC K (clA a n) := by
  unfold clA
  rcases nrm_or n with h | h | h | h | h | h | h | h | h | h | h | h | h | h | h
  · rw [h]; exact T.xc_BadCount
  · rw [h]; exact T.xc_BadRule
  · rw [h]; exact T.xc_BadLine
  · rw [h]; exact T.xc_UnknownName
  · rw [h]; exact T.xc_NoValidText
  · rw [h]; exact T.xc_TooLong
  · rw [h]; exact T.xc_TooManySteps
  · rw [h]; exact T.xc_BadSign
  · rw [h]; exact T.xc_BadIndex
  · rw [h]; exact T.xc_BadSpan
  · rw [h]; exact T.xc_Impossible
  · rw [h]; exact T.xc_NoFault
  · rw [h]; exact T.xc_OutsideWindow
  · rw [h]; exact T.xc_WrongText
  · rw [h]; exact T.xc_RowEnded
end SF
namespace SF
open PySem PySem.Spec PyProof.Rows L2
section
def dA__law_cell : He5.DefA := ⟨fun K => (He.ga K "_law_cell"), "_law_cell", "_law_cell", defArgs s__law_cell, defBody s__law_cell, defScope s__law_cell, [], []⟩
def dA__law_is_number : He5.DefA := ⟨fun K => (He.ga K "_law_is_number"), "_law_is_number", "_law_is_number", defArgs s__law_is_number, defBody s__law_is_number, defScope s__law_is_number, [], []⟩
def dA__law_kinds : He5.DefA := ⟨fun K => (He.ga K "_law_kinds"), "_law_kinds", "_law_kinds", defArgs s__law_kinds, defBody s__law_kinds, defScope s__law_kinds, [], []⟩
def dA__law_same : He5.DefA := ⟨fun K => (He.ga K "_law_same"), "_law_same", "_law_same", defArgs s__law_same, defBody s__law_same, defScope s__law_same, [], []⟩
def dA__law_any_kept : He5.DefA := ⟨fun K => (He.ga K "_law_any_kept"), "_law_any_kept", "_law_any_kept", defArgs s__law_any_kept, defBody s__law_any_kept, defScope s__law_any_kept, [], []⟩
def dA_law : He5.DefA := ⟨fun K => (He.ga K "law"), "law", "law", defArgs s_law, defBody s_law, defScope s_law, [], []⟩
def fnA : List He5.DefA := [dA__law_cell, dA__law_is_number, dA__law_kinds, dA__law_same, dA__law_any_kept, dA_law]
def faA : List He.Fa := [.free "len", .free "all", .free "sum", .free "sorted", .free "set", .free "range", .free "enumerate", .free "max", .free "list", .free "int", .free "isinstance", .free "str", .free "any", .free "bool", .free "ValueError", .glo "_law_cell", .glo "_law_is_number", .glo "_law_kinds", .glo "_law_same", .glo "_law_any_kept", .glo "law", .glo "BadCount", .noat "BadCount" "count", .glo "BadRule", .noat "BadRule" "number", .glo "BadLine", .noat "BadLine" "line", .glo "UnknownName", .noat "UnknownName" "name", .glo "NoValidText", .glo "TooLong", .noat "TooLong" "length", .glo "TooManySteps", .noat "TooManySteps" "count", .glo "BadSign", .noat "BadSign" "index", .glo "BadIndex", .noat "BadIndex" "index", .glo "BadSpan", .noat "BadSpan" "start", .noat "BadSpan" "end", .glo "Impossible", .noat "Impossible" "fragment", .glo "NoFault", .noat "NoFault" "index", .glo "OutsideWindow", .noat "OutsideWindow" "place", .glo "WrongText", .noat "WrongText" "count", .glo "RowEnded", .glo "SureError", .free "super"]
def exL : List (PySem.W.Frag → Bool) := [fun K => xfB K (He.ga K "BadCount"), fun K => xfB K (He.ga K "BadRule"), fun K => xfB K (He.ga K "BadLine"), fun K => xfB K (He.ga K "UnknownName"), fun K => xfB K (He.ga K "NoValidText"), fun K => xfB K (He.ga K "TooLong"), fun K => xfB K (He.ga K "TooManySteps"), fun K => xfB K (He.ga K "BadSign"), fun K => xfB K (He.ga K "BadIndex"), fun K => xfB K (He.ga K "BadSpan"), fun K => xfB K (He.ga K "Impossible"), fun K => xfB K (He.ga K "NoFault"), fun K => xfB K (He.ga K "OutsideWindow"), fun K => xfB K (He.ga K "WrongText"), fun K => xfB K (He.ga K "RowEnded"), fun K => excB K (He.ga K "BadCount"), fun K => kitB K "BadCount" "BadCount" true, fun K => kitB K "BadRule" "BadCount" false, fun K => kitB K "BadLine" "BadCount" false, fun K => kitB K "UnknownName" "BadCount" false, fun K => kitB K "NoValidText" "BadCount" false, fun K => kitB K "TooLong" "BadCount" false, fun K => kitB K "TooManySteps" "BadCount" false, fun K => kitB K "BadSign" "BadCount" false, fun K => kitB K "BadIndex" "BadCount" false, fun K => kitB K "BadSpan" "BadCount" false, fun K => kitB K "Impossible" "BadCount" false, fun K => kitB K "NoFault" "BadCount" false, fun K => kitB K "OutsideWindow" "BadCount" false, fun K => kitB K "WrongText" "BadCount" false, fun K => kitB K "RowEnded" "BadCount" false, fun K => excB K (He.ga K "BadRule"), fun K => kitB K "BadCount" "BadRule" false, fun K => kitB K "BadRule" "BadRule" true, fun K => kitB K "BadLine" "BadRule" false, fun K => kitB K "UnknownName" "BadRule" false, fun K => kitB K "NoValidText" "BadRule" false, fun K => kitB K "TooLong" "BadRule" false, fun K => kitB K "TooManySteps" "BadRule" false, fun K => kitB K "BadSign" "BadRule" false, fun K => kitB K "BadIndex" "BadRule" false, fun K => kitB K "BadSpan" "BadRule" false, fun K => kitB K "Impossible" "BadRule" false, fun K => kitB K "NoFault" "BadRule" false, fun K => kitB K "OutsideWindow" "BadRule" false, fun K => kitB K "WrongText" "BadRule" false, fun K => kitB K "RowEnded" "BadRule" false, fun K => excB K (He.ga K "BadLine"), fun K => kitB K "BadCount" "BadLine" false, fun K => kitB K "BadRule" "BadLine" false, fun K => kitB K "BadLine" "BadLine" true, fun K => kitB K "UnknownName" "BadLine" false, fun K => kitB K "NoValidText" "BadLine" false, fun K => kitB K "TooLong" "BadLine" false, fun K => kitB K "TooManySteps" "BadLine" false, fun K => kitB K "BadSign" "BadLine" false, fun K => kitB K "BadIndex" "BadLine" false, fun K => kitB K "BadSpan" "BadLine" false, fun K => kitB K "Impossible" "BadLine" false, fun K => kitB K "NoFault" "BadLine" false, fun K => kitB K "OutsideWindow" "BadLine" false, fun K => kitB K "WrongText" "BadLine" false, fun K => kitB K "RowEnded" "BadLine" false, fun K => excB K (He.ga K "UnknownName"), fun K => kitB K "BadCount" "UnknownName" false, fun K => kitB K "BadRule" "UnknownName" false, fun K => kitB K "BadLine" "UnknownName" false, fun K => kitB K "UnknownName" "UnknownName" true, fun K => kitB K "NoValidText" "UnknownName" false, fun K => kitB K "TooLong" "UnknownName" false, fun K => kitB K "TooManySteps" "UnknownName" false, fun K => kitB K "BadSign" "UnknownName" false, fun K => kitB K "BadIndex" "UnknownName" false, fun K => kitB K "BadSpan" "UnknownName" false, fun K => kitB K "Impossible" "UnknownName" false, fun K => kitB K "NoFault" "UnknownName" false, fun K => kitB K "OutsideWindow" "UnknownName" false, fun K => kitB K "WrongText" "UnknownName" false, fun K => kitB K "RowEnded" "UnknownName" false, fun K => excB K (He.ga K "NoValidText"), fun K => kitB K "BadCount" "NoValidText" false, fun K => kitB K "BadRule" "NoValidText" false, fun K => kitB K "BadLine" "NoValidText" false, fun K => kitB K "UnknownName" "NoValidText" false, fun K => kitB K "NoValidText" "NoValidText" true, fun K => kitB K "TooLong" "NoValidText" false, fun K => kitB K "TooManySteps" "NoValidText" false, fun K => kitB K "BadSign" "NoValidText" false, fun K => kitB K "BadIndex" "NoValidText" false, fun K => kitB K "BadSpan" "NoValidText" false, fun K => kitB K "Impossible" "NoValidText" false, fun K => kitB K "NoFault" "NoValidText" false, fun K => kitB K "OutsideWindow" "NoValidText" false, fun K => kitB K "WrongText" "NoValidText" false, fun K => kitB K "RowEnded" "NoValidText" false, fun K => excB K (He.ga K "TooLong"), fun K => kitB K "BadCount" "TooLong" false, fun K => kitB K "BadRule" "TooLong" false, fun K => kitB K "BadLine" "TooLong" false, fun K => kitB K "UnknownName" "TooLong" false, fun K => kitB K "NoValidText" "TooLong" false, fun K => kitB K "TooLong" "TooLong" true, fun K => kitB K "TooManySteps" "TooLong" false, fun K => kitB K "BadSign" "TooLong" false, fun K => kitB K "BadIndex" "TooLong" false, fun K => kitB K "BadSpan" "TooLong" false, fun K => kitB K "Impossible" "TooLong" false, fun K => kitB K "NoFault" "TooLong" false, fun K => kitB K "OutsideWindow" "TooLong" false, fun K => kitB K "WrongText" "TooLong" false, fun K => kitB K "RowEnded" "TooLong" false, fun K => excB K (He.ga K "TooManySteps"), fun K => kitB K "BadCount" "TooManySteps" false, fun K => kitB K "BadRule" "TooManySteps" false, fun K => kitB K "BadLine" "TooManySteps" false, fun K => kitB K "UnknownName" "TooManySteps" false, fun K => kitB K "NoValidText" "TooManySteps" false, fun K => kitB K "TooLong" "TooManySteps" false, fun K => kitB K "TooManySteps" "TooManySteps" true, fun K => kitB K "BadSign" "TooManySteps" false, fun K => kitB K "BadIndex" "TooManySteps" false, fun K => kitB K "BadSpan" "TooManySteps" false, fun K => kitB K "Impossible" "TooManySteps" false, fun K => kitB K "NoFault" "TooManySteps" false, fun K => kitB K "OutsideWindow" "TooManySteps" false, fun K => kitB K "WrongText" "TooManySteps" false, fun K => kitB K "RowEnded" "TooManySteps" false, fun K => excB K (He.ga K "BadSign"), fun K => kitB K "BadCount" "BadSign" false, fun K => kitB K "BadRule" "BadSign" false, fun K => kitB K "BadLine" "BadSign" false, fun K => kitB K "UnknownName" "BadSign" false, fun K => kitB K "NoValidText" "BadSign" false, fun K => kitB K "TooLong" "BadSign" false, fun K => kitB K "TooManySteps" "BadSign" false, fun K => kitB K "BadSign" "BadSign" true, fun K => kitB K "BadIndex" "BadSign" false, fun K => kitB K "BadSpan" "BadSign" false, fun K => kitB K "Impossible" "BadSign" false, fun K => kitB K "NoFault" "BadSign" false, fun K => kitB K "OutsideWindow" "BadSign" false, fun K => kitB K "WrongText" "BadSign" false, fun K => kitB K "RowEnded" "BadSign" false, fun K => excB K (He.ga K "BadIndex"), fun K => kitB K "BadCount" "BadIndex" false, fun K => kitB K "BadRule" "BadIndex" false, fun K => kitB K "BadLine" "BadIndex" false, fun K => kitB K "UnknownName" "BadIndex" false, fun K => kitB K "NoValidText" "BadIndex" false, fun K => kitB K "TooLong" "BadIndex" false, fun K => kitB K "TooManySteps" "BadIndex" false, fun K => kitB K "BadSign" "BadIndex" false, fun K => kitB K "BadIndex" "BadIndex" true, fun K => kitB K "BadSpan" "BadIndex" false, fun K => kitB K "Impossible" "BadIndex" false, fun K => kitB K "NoFault" "BadIndex" false, fun K => kitB K "OutsideWindow" "BadIndex" false, fun K => kitB K "WrongText" "BadIndex" false, fun K => kitB K "RowEnded" "BadIndex" false, fun K => excB K (He.ga K "BadSpan"), fun K => kitB K "BadCount" "BadSpan" false, fun K => kitB K "BadRule" "BadSpan" false, fun K => kitB K "BadLine" "BadSpan" false, fun K => kitB K "UnknownName" "BadSpan" false, fun K => kitB K "NoValidText" "BadSpan" false, fun K => kitB K "TooLong" "BadSpan" false, fun K => kitB K "TooManySteps" "BadSpan" false, fun K => kitB K "BadSign" "BadSpan" false, fun K => kitB K "BadIndex" "BadSpan" false, fun K => kitB K "BadSpan" "BadSpan" true, fun K => kitB K "Impossible" "BadSpan" false, fun K => kitB K "NoFault" "BadSpan" false, fun K => kitB K "OutsideWindow" "BadSpan" false, fun K => kitB K "WrongText" "BadSpan" false, fun K => kitB K "RowEnded" "BadSpan" false, fun K => excB K (He.ga K "Impossible"), fun K => kitB K "BadCount" "Impossible" false, fun K => kitB K "BadRule" "Impossible" false, fun K => kitB K "BadLine" "Impossible" false, fun K => kitB K "UnknownName" "Impossible" false, fun K => kitB K "NoValidText" "Impossible" false, fun K => kitB K "TooLong" "Impossible" false, fun K => kitB K "TooManySteps" "Impossible" false, fun K => kitB K "BadSign" "Impossible" false, fun K => kitB K "BadIndex" "Impossible" false, fun K => kitB K "BadSpan" "Impossible" false, fun K => kitB K "Impossible" "Impossible" true, fun K => kitB K "NoFault" "Impossible" false, fun K => kitB K "OutsideWindow" "Impossible" false, fun K => kitB K "WrongText" "Impossible" false, fun K => kitB K "RowEnded" "Impossible" false, fun K => excB K (He.ga K "NoFault"), fun K => kitB K "BadCount" "NoFault" false, fun K => kitB K "BadRule" "NoFault" false, fun K => kitB K "BadLine" "NoFault" false, fun K => kitB K "UnknownName" "NoFault" false, fun K => kitB K "NoValidText" "NoFault" false, fun K => kitB K "TooLong" "NoFault" false, fun K => kitB K "TooManySteps" "NoFault" false, fun K => kitB K "BadSign" "NoFault" false, fun K => kitB K "BadIndex" "NoFault" false, fun K => kitB K "BadSpan" "NoFault" false, fun K => kitB K "Impossible" "NoFault" false, fun K => kitB K "NoFault" "NoFault" true, fun K => kitB K "OutsideWindow" "NoFault" false, fun K => kitB K "WrongText" "NoFault" false, fun K => kitB K "RowEnded" "NoFault" false, fun K => excB K (He.ga K "OutsideWindow"), fun K => kitB K "BadCount" "OutsideWindow" false, fun K => kitB K "BadRule" "OutsideWindow" false, fun K => kitB K "BadLine" "OutsideWindow" false, fun K => kitB K "UnknownName" "OutsideWindow" false, fun K => kitB K "NoValidText" "OutsideWindow" false, fun K => kitB K "TooLong" "OutsideWindow" false, fun K => kitB K "TooManySteps" "OutsideWindow" false, fun K => kitB K "BadSign" "OutsideWindow" false, fun K => kitB K "BadIndex" "OutsideWindow" false, fun K => kitB K "BadSpan" "OutsideWindow" false, fun K => kitB K "Impossible" "OutsideWindow" false, fun K => kitB K "NoFault" "OutsideWindow" false, fun K => kitB K "OutsideWindow" "OutsideWindow" true, fun K => kitB K "WrongText" "OutsideWindow" false, fun K => kitB K "RowEnded" "OutsideWindow" false, fun K => excB K (He.ga K "WrongText"), fun K => kitB K "BadCount" "WrongText" false, fun K => kitB K "BadRule" "WrongText" false, fun K => kitB K "BadLine" "WrongText" false, fun K => kitB K "UnknownName" "WrongText" false, fun K => kitB K "NoValidText" "WrongText" false, fun K => kitB K "TooLong" "WrongText" false, fun K => kitB K "TooManySteps" "WrongText" false, fun K => kitB K "BadSign" "WrongText" false, fun K => kitB K "BadIndex" "WrongText" false, fun K => kitB K "BadSpan" "WrongText" false, fun K => kitB K "Impossible" "WrongText" false, fun K => kitB K "NoFault" "WrongText" false, fun K => kitB K "OutsideWindow" "WrongText" false, fun K => kitB K "WrongText" "WrongText" true, fun K => kitB K "RowEnded" "WrongText" false, fun K => excB K (He.ga K "RowEnded"), fun K => kitB K "BadCount" "RowEnded" false, fun K => kitB K "BadRule" "RowEnded" false, fun K => kitB K "BadLine" "RowEnded" false, fun K => kitB K "UnknownName" "RowEnded" false, fun K => kitB K "NoValidText" "RowEnded" false, fun K => kitB K "TooLong" "RowEnded" false, fun K => kitB K "TooManySteps" "RowEnded" false, fun K => kitB K "BadSign" "RowEnded" false, fun K => kitB K "BadIndex" "RowEnded" false, fun K => kitB K "BadSpan" "RowEnded" false, fun K => kitB K "Impossible" "RowEnded" false, fun K => kitB K "NoFault" "RowEnded" false, fun K => kitB K "OutsideWindow" "RowEnded" false, fun K => kitB K "WrongText" "RowEnded" false, fun K => kitB K "RowEnded" "RowEnded" true, fun K => kitB K "BadCount" "SureError" true, fun K => kitB K "BadRule" "SureError" true, fun K => kitB K "BadLine" "SureError" true, fun K => kitB K "UnknownName" "SureError" true, fun K => kitB K "NoValidText" "SureError" true, fun K => kitB K "TooLong" "SureError" true, fun K => kitB K "TooManySteps" "SureError" true, fun K => kitB K "BadSign" "SureError" true, fun K => kitB K "BadIndex" "SureError" true, fun K => kitB K "BadSpan" "SureError" true, fun K => kitB K "Impossible" "SureError" true, fun K => kitB K "NoFault" "SureError" true, fun K => kitB K "OutsideWindow" "SureError" true, fun K => kitB K "WrongText" "SureError" true, fun K => kitB K "RowEnded" "SureError" true, fun K => kitVB K "BadCount" "ValueError" true, fun K => kitVB K "BadRule" "ValueError" true, fun K => kitVB K "BadLine" "ValueError" true, fun K => kitVB K "UnknownName" "ValueError" true, fun K => kitVB K "NoValidText" "ValueError" true, fun K => kitVB K "TooLong" "ValueError" true, fun K => kitVB K "TooManySteps" "ValueError" true, fun K => kitVB K "BadSign" "ValueError" true, fun K => kitVB K "BadIndex" "ValueError" true, fun K => kitVB K "BadSpan" "ValueError" true, fun K => kitVB K "Impossible" "ValueError" true, fun K => kitVB K "NoFault" "ValueError" true, fun K => kitVB K "OutsideWindow" "ValueError" true, fun K => kitVB K "WrongText" "ValueError" true, fun K => kitVB K "RowEnded" "ValueError" true, fun K => erB K "BadCount" "BadCount.__init__" PW.main.file, fun K => erB K "BadRule" "BadRule.__init__" PW.main.file, fun K => erB K "BadLine" "BadLine.__init__" PW.main.file, fun K => erB K "UnknownName" "UnknownName.__init__" PW.main.file, fun K => erB K "NoValidText" "NoValidText.__init__" PW.main.file, fun K => erB K "TooLong" "TooLong.__init__" PW.main.file, fun K => erB K "TooManySteps" "TooManySteps.__init__" PW.main.file, fun K => erB K "BadSign" "BadSign.__init__" PW.main.file, fun K => erB K "BadIndex" "BadIndex.__init__" PW.main.file, fun K => erB K "BadSpan" "BadSpan.__init__" PW.main.file, fun K => erB K "Impossible" "Impossible.__init__" PW.main.file, fun K => erB K "NoFault" "NoFault.__init__" PW.main.file, fun K => erB K "OutsideWindow" "OutsideWindow.__init__" PW.main.file, fun K => erB K "WrongText" "WrongText.__init__" PW.main.file, fun K => erB K "RowEnded" "RowEnded.__init__" PW.main.file]
def exA (K : PySem.W.Frag) : Bool := exL.all fun e => e K
theorem exAt {K : PySem.W.Frag} (c : SaysP faA fnA exA K) (i : Nat) {e : PySem.W.Frag → Bool} (h : exL[i]? = some e := by rfl) : e K = true := List.all_eq_true.mp c.more e (List.mem_of_getElem? h)
def erA : List ErA := [⟨"BadCount", "BadCount.__init__", s_BadCount___init__⟩, ⟨"BadRule", "BadRule.__init__", s_BadRule___init__⟩, ⟨"BadLine", "BadLine.__init__", s_BadLine___init__⟩, ⟨"UnknownName", "UnknownName.__init__", s_UnknownName___init__⟩, ⟨"NoValidText", "NoValidText.__init__", s_NoValidText___init__⟩, ⟨"TooLong", "TooLong.__init__", s_TooLong___init__⟩, ⟨"TooManySteps", "TooManySteps.__init__", s_TooManySteps___init__⟩, ⟨"BadSign", "BadSign.__init__", s_BadSign___init__⟩, ⟨"BadIndex", "BadIndex.__init__", s_BadIndex___init__⟩, ⟨"BadSpan", "BadSpan.__init__", s_BadSpan___init__⟩, ⟨"Impossible", "Impossible.__init__", s_Impossible___init__⟩, ⟨"NoFault", "NoFault.__init__", s_NoFault___init__⟩, ⟨"OutsideWindow", "OutsideWindow.__init__", s_OutsideWindow___init__⟩, ⟨"WrongText", "WrongText.__init__", s_WrongText___init__⟩, ⟨"RowEnded", "RowEnded.__init__", s_RowEnded___init__⟩]
theorem txt_of {K : PySem.W.Frag} {h : Heap} {mg : Str → Option Value} (X : K.In h) (G : h.Ns mainGlobals mg) (c : SaysQ faA fnA erA exA K) : ∃ a : Ad, Txt K mg a ∧ a.law = He.ga K "law" ∧ (∀ (s : Shared) (v : Value), BindsTo s a.d_law ⟨[v], []⟩ [("_law_script", v)]) := by
  obtain ⟨fd__law_cell, F__law_cell⟩ := c.a.def_ 0 (d := dA__law_cell) rfl
  obtain ⟨fd__law_is_number, F__law_is_number⟩ := c.a.def_ 1 (d := dA__law_is_number) rfl
  obtain ⟨fd__law_kinds, F__law_kinds⟩ := c.a.def_ 2 (d := dA__law_kinds) rfl
  obtain ⟨fd__law_same, F__law_same⟩ := c.a.def_ 3 (d := dA__law_same) rfl
  obtain ⟨fd__law_any_kept, F__law_any_kept⟩ := c.a.def_ 4 (d := dA__law_any_kept) rfl
  obtain ⟨fd_law, F_law⟩ := c.a.def_ 5 (d := dA_law) rfl
  obtain ⟨fe_BadCount, S_BadCount⟩ := seC_of (P := PW) (mg := mg) (c.er 0 (e := ⟨"BadCount", "BadCount.__init__", s_BadCount___init__⟩) rfl) (exAt c.toSaysP 285) (beq_self_eq_true _) (by decide +kernel) (He.free_ok X G (c.a.fact 51 (f := .free "super") rfl))
  obtain ⟨fe_BadRule, S_BadRule⟩ := seC_of (P := PW) (mg := mg) (c.er 1 (e := ⟨"BadRule", "BadRule.__init__", s_BadRule___init__⟩) rfl) (exAt c.toSaysP 286) (beq_self_eq_true _) (by decide +kernel) (He.free_ok X G (c.a.fact 51 (f := .free "super") rfl))
  obtain ⟨fe_BadLine, S_BadLine⟩ := seC_of (P := PW) (mg := mg) (c.er 2 (e := ⟨"BadLine", "BadLine.__init__", s_BadLine___init__⟩) rfl) (exAt c.toSaysP 287) (beq_self_eq_true _) (by decide +kernel) (He.free_ok X G (c.a.fact 51 (f := .free "super") rfl))
  obtain ⟨fe_UnknownName, S_UnknownName⟩ := seC_of (P := PW) (mg := mg) (c.er 3 (e := ⟨"UnknownName", "UnknownName.__init__", s_UnknownName___init__⟩) rfl) (exAt c.toSaysP 288) (beq_self_eq_true _) (by decide +kernel) (He.free_ok X G (c.a.fact 51 (f := .free "super") rfl))
  obtain ⟨fe_NoValidText, S_NoValidText⟩ := seC_of (P := PW) (mg := mg) (c.er 4 (e := ⟨"NoValidText", "NoValidText.__init__", s_NoValidText___init__⟩) rfl) (exAt c.toSaysP 289) (beq_self_eq_true _) (by decide +kernel) (He.free_ok X G (c.a.fact 51 (f := .free "super") rfl))
  obtain ⟨fe_TooLong, S_TooLong⟩ := seC_of (P := PW) (mg := mg) (c.er 5 (e := ⟨"TooLong", "TooLong.__init__", s_TooLong___init__⟩) rfl) (exAt c.toSaysP 290) (beq_self_eq_true _) (by decide +kernel) (He.free_ok X G (c.a.fact 51 (f := .free "super") rfl))
  obtain ⟨fe_TooManySteps, S_TooManySteps⟩ := seC_of (P := PW) (mg := mg) (c.er 6 (e := ⟨"TooManySteps", "TooManySteps.__init__", s_TooManySteps___init__⟩) rfl) (exAt c.toSaysP 291) (beq_self_eq_true _) (by decide +kernel) (He.free_ok X G (c.a.fact 51 (f := .free "super") rfl))
  obtain ⟨fe_BadSign, S_BadSign⟩ := seC_of (P := PW) (mg := mg) (c.er 7 (e := ⟨"BadSign", "BadSign.__init__", s_BadSign___init__⟩) rfl) (exAt c.toSaysP 292) (beq_self_eq_true _) (by decide +kernel) (He.free_ok X G (c.a.fact 51 (f := .free "super") rfl))
  obtain ⟨fe_BadIndex, S_BadIndex⟩ := seC_of (P := PW) (mg := mg) (c.er 8 (e := ⟨"BadIndex", "BadIndex.__init__", s_BadIndex___init__⟩) rfl) (exAt c.toSaysP 293) (beq_self_eq_true _) (by decide +kernel) (He.free_ok X G (c.a.fact 51 (f := .free "super") rfl))
  obtain ⟨fe_BadSpan, S_BadSpan⟩ := seC_of (P := PW) (mg := mg) (c.er 9 (e := ⟨"BadSpan", "BadSpan.__init__", s_BadSpan___init__⟩) rfl) (exAt c.toSaysP 294) (beq_self_eq_true _) (by decide +kernel) (He.free_ok X G (c.a.fact 51 (f := .free "super") rfl))
  obtain ⟨fe_Impossible, S_Impossible⟩ := seC_of (P := PW) (mg := mg) (c.er 10 (e := ⟨"Impossible", "Impossible.__init__", s_Impossible___init__⟩) rfl) (exAt c.toSaysP 295) (beq_self_eq_true _) (by decide +kernel) (He.free_ok X G (c.a.fact 51 (f := .free "super") rfl))
  obtain ⟨fe_NoFault, S_NoFault⟩ := seC_of (P := PW) (mg := mg) (c.er 11 (e := ⟨"NoFault", "NoFault.__init__", s_NoFault___init__⟩) rfl) (exAt c.toSaysP 296) (beq_self_eq_true _) (by decide +kernel) (He.free_ok X G (c.a.fact 51 (f := .free "super") rfl))
  obtain ⟨fe_OutsideWindow, S_OutsideWindow⟩ := seC_of (P := PW) (mg := mg) (c.er 12 (e := ⟨"OutsideWindow", "OutsideWindow.__init__", s_OutsideWindow___init__⟩) rfl) (exAt c.toSaysP 297) (beq_self_eq_true _) (by decide +kernel) (He.free_ok X G (c.a.fact 51 (f := .free "super") rfl))
  obtain ⟨fe_WrongText, S_WrongText⟩ := seC_of (P := PW) (mg := mg) (c.er 13 (e := ⟨"WrongText", "WrongText.__init__", s_WrongText___init__⟩) rfl) (exAt c.toSaysP 298) (beq_self_eq_true _) (by decide +kernel) (He.free_ok X G (c.a.fact 51 (f := .free "super") rfl))
  obtain ⟨fe_RowEnded, S_RowEnded⟩ := seC_of (P := PW) (mg := mg) (c.er 14 (e := ⟨"RowEnded", "RowEnded.__init__", s_RowEnded___init__⟩) rfl) (exAt c.toSaysP 299) (beq_self_eq_true _) (by decide +kernel) (He.free_ok X G (c.a.fact 51 (f := .free "super") rfl))
  have c := c.toSaysP
  have b := FunD.bindsA (ps := ["_law_script"]) F_law fun _ _ _ _ _ _ us hl => match us, hl with | [_], _ => rfl
  refine ⟨{ BadCount := He.ga K "BadCount", BadCount___init__ := initAt K "BadCount", d_BadCount___init__ := fe_BadCount, cc_BadCount := cellAt K "BadCount", cd_BadCount := codeAt K "BadCount", BadRule := He.ga K "BadRule", BadRule___init__ := initAt K "BadRule", d_BadRule___init__ := fe_BadRule, cc_BadRule := cellAt K "BadRule", cd_BadRule := codeAt K "BadRule", BadLine := He.ga K "BadLine", BadLine___init__ := initAt K "BadLine", d_BadLine___init__ := fe_BadLine, cc_BadLine := cellAt K "BadLine", cd_BadLine := codeAt K "BadLine", UnknownName := He.ga K "UnknownName", UnknownName___init__ := initAt K "UnknownName", d_UnknownName___init__ := fe_UnknownName, cc_UnknownName := cellAt K "UnknownName", cd_UnknownName := codeAt K "UnknownName", NoValidText := He.ga K "NoValidText", NoValidText___init__ := initAt K "NoValidText", d_NoValidText___init__ := fe_NoValidText, cc_NoValidText := cellAt K "NoValidText", cd_NoValidText := codeAt K "NoValidText", TooLong := He.ga K "TooLong", TooLong___init__ := initAt K "TooLong", d_TooLong___init__ := fe_TooLong, cc_TooLong := cellAt K "TooLong", cd_TooLong := codeAt K "TooLong", TooManySteps := He.ga K "TooManySteps", TooManySteps___init__ := initAt K "TooManySteps", d_TooManySteps___init__ := fe_TooManySteps, cc_TooManySteps := cellAt K "TooManySteps", cd_TooManySteps := codeAt K "TooManySteps", BadSign := He.ga K "BadSign", BadSign___init__ := initAt K "BadSign", d_BadSign___init__ := fe_BadSign, cc_BadSign := cellAt K "BadSign", cd_BadSign := codeAt K "BadSign", BadIndex := He.ga K "BadIndex", BadIndex___init__ := initAt K "BadIndex", d_BadIndex___init__ := fe_BadIndex, cc_BadIndex := cellAt K "BadIndex", cd_BadIndex := codeAt K "BadIndex", BadSpan := He.ga K "BadSpan", BadSpan___init__ := initAt K "BadSpan", d_BadSpan___init__ := fe_BadSpan, cc_BadSpan := cellAt K "BadSpan", cd_BadSpan := codeAt K "BadSpan", Impossible := He.ga K "Impossible", Impossible___init__ := initAt K "Impossible", d_Impossible___init__ := fe_Impossible, cc_Impossible := cellAt K "Impossible", cd_Impossible := codeAt K "Impossible", NoFault := He.ga K "NoFault", NoFault___init__ := initAt K "NoFault", d_NoFault___init__ := fe_NoFault, cc_NoFault := cellAt K "NoFault", cd_NoFault := codeAt K "NoFault", OutsideWindow := He.ga K "OutsideWindow", OutsideWindow___init__ := initAt K "OutsideWindow", d_OutsideWindow___init__ := fe_OutsideWindow, cc_OutsideWindow := cellAt K "OutsideWindow", cd_OutsideWindow := codeAt K "OutsideWindow", WrongText := He.ga K "WrongText", WrongText___init__ := initAt K "WrongText", d_WrongText___init__ := fe_WrongText, cc_WrongText := cellAt K "WrongText", cd_WrongText := codeAt K "WrongText", RowEnded := He.ga K "RowEnded", RowEnded___init__ := initAt K "RowEnded", d_RowEnded___init__ := fe_RowEnded, cc_RowEnded := cellAt K "RowEnded", cd_RowEnded := codeAt K "RowEnded", _law_cell := (He.ga K "_law_cell"), d__law_cell := fd__law_cell, _law_is_number := (He.ga K "_law_is_number"), d__law_is_number := fd__law_is_number, _law_kinds := (He.ga K "_law_kinds"), d__law_kinds := fd__law_kinds, _law_same := (He.ga K "_law_same"), d__law_same := fd__law_same, _law_any_kept := (He.ga K "_law_any_kept"), d__law_any_kept := fd__law_any_kept, law := (He.ga K "law"), d_law := fd_law, SureError := He.ga K "SureError" }, ⟨He.free_ok X G (c.a.fact 0 (f := .free "len") rfl),
    He.free_ok X G (c.a.fact 1 (f := .free "all") rfl),
    He.free_ok X G (c.a.fact 2 (f := .free "sum") rfl),
    He.free_ok X G (c.a.fact 3 (f := .free "sorted") rfl),
    He.free_ok X G (c.a.fact 4 (f := .free "set") rfl),
    He.free_ok X G (c.a.fact 5 (f := .free "range") rfl),
    He.free_ok X G (c.a.fact 6 (f := .free "enumerate") rfl),
    He.free_ok X G (c.a.fact 7 (f := .free "max") rfl),
    He.free_ok X G (c.a.fact 8 (f := .free "list") rfl),
    He.free_ok X G (c.a.fact 9 (f := .free "int") rfl),
    He.free_ok X G (c.a.fact 10 (f := .free "isinstance") rfl),
    He.free_ok X G (c.a.fact 11 (f := .free "str") rfl),
    He.free_ok X G (c.a.fact 12 (f := .free "any") rfl),
    He.free_ok X G (c.a.fact 13 (f := .free "bool") rfl),
    He.free_ok X G (c.a.fact 14 (f := .free "ValueError") rfl),
    He5.fun_of F__law_cell,
    F__law_cell.bindsN fun _ _ _ _ _ _ us hl => match us, hl with | [_, _], _ => rfl,
    He.glo_ok X G (c.a.fact 15 (f := .glo "_law_cell") rfl),
    He5.fun_of F__law_is_number,
    F__law_is_number.bindsN fun _ _ _ _ _ _ us hl => match us, hl with | [_], _ => rfl,
    He.glo_ok X G (c.a.fact 16 (f := .glo "_law_is_number") rfl),
    He5.fun_of F__law_kinds,
    F__law_kinds.bindsN fun _ _ _ _ _ _ us hl => match us, hl with | [_], _ => rfl,
    He.glo_ok X G (c.a.fact 17 (f := .glo "_law_kinds") rfl),
    He5.fun_of F__law_same,
    F__law_same.bindsN fun _ _ _ _ _ _ us hl => match us, hl with | [_, _], _ => rfl,
    He.glo_ok X G (c.a.fact 18 (f := .glo "_law_same") rfl),
    He5.fun_of F__law_any_kept,
    F__law_any_kept.bindsN fun _ _ _ _ _ _ us hl => match us, hl with | [_], _ => rfl,
    He.glo_ok X G (c.a.fact 19 (f := .glo "_law_any_kept") rfl),
    He5.fun_of F_law,
    F_law.bindsN fun _ _ _ _ _ _ us hl => match us, hl with | [_], _ => rfl,
    He.glo_ok X G (c.a.fact 20 (f := .glo "law") rfl),
    He.glo_ok X G (c.a.fact 21 (f := .glo "BadCount") rfl),
    S_BadCount,
    se_binds S_BadCount fun _ _ _ _ _ us hl => match us, hl with | [_, _], _ => rfl,
    He.noat_ok (c.a.fact 22 (f := .noat "BadCount" "count") rfl),
    xfB_ok (exAt c 0),
    He.glo_ok X G (c.a.fact 23 (f := .glo "BadRule") rfl),
    S_BadRule,
    se_binds S_BadRule fun _ _ _ _ _ us hl => match us, hl with | [_, _], _ => rfl,
    He.noat_ok (c.a.fact 24 (f := .noat "BadRule" "number") rfl),
    xfB_ok (exAt c 1),
    He.glo_ok X G (c.a.fact 25 (f := .glo "BadLine") rfl),
    S_BadLine,
    se_binds S_BadLine fun _ _ _ _ _ us hl => match us, hl with | [_, _], _ => rfl,
    He.noat_ok (c.a.fact 26 (f := .noat "BadLine" "line") rfl),
    xfB_ok (exAt c 2),
    He.glo_ok X G (c.a.fact 27 (f := .glo "UnknownName") rfl),
    S_UnknownName,
    se_binds S_UnknownName fun _ _ _ _ _ us hl => match us, hl with | [_, _], _ => rfl,
    He.noat_ok (c.a.fact 28 (f := .noat "UnknownName" "name") rfl),
    xfB_ok (exAt c 3),
    He.glo_ok X G (c.a.fact 29 (f := .glo "NoValidText") rfl),
    S_NoValidText,
    se_binds S_NoValidText fun _ _ _ _ _ us hl => match us, hl with | [_], _ => rfl,
    xfB_ok (exAt c 4),
    He.glo_ok X G (c.a.fact 30 (f := .glo "TooLong") rfl),
    S_TooLong,
    se_binds S_TooLong fun _ _ _ _ _ us hl => match us, hl with | [_, _], _ => rfl,
    He.noat_ok (c.a.fact 31 (f := .noat "TooLong" "length") rfl),
    xfB_ok (exAt c 5),
    He.glo_ok X G (c.a.fact 32 (f := .glo "TooManySteps") rfl),
    S_TooManySteps,
    se_binds S_TooManySteps fun _ _ _ _ _ us hl => match us, hl with | [_, _], _ => rfl,
    He.noat_ok (c.a.fact 33 (f := .noat "TooManySteps" "count") rfl),
    xfB_ok (exAt c 6),
    He.glo_ok X G (c.a.fact 34 (f := .glo "BadSign") rfl),
    S_BadSign,
    se_binds S_BadSign fun _ _ _ _ _ us hl => match us, hl with | [_, _], _ => rfl,
    He.noat_ok (c.a.fact 35 (f := .noat "BadSign" "index") rfl),
    xfB_ok (exAt c 7),
    He.glo_ok X G (c.a.fact 36 (f := .glo "BadIndex") rfl),
    S_BadIndex,
    se_binds S_BadIndex fun _ _ _ _ _ us hl => match us, hl with | [_, _], _ => rfl,
    He.noat_ok (c.a.fact 37 (f := .noat "BadIndex" "index") rfl),
    xfB_ok (exAt c 8),
    He.glo_ok X G (c.a.fact 38 (f := .glo "BadSpan") rfl),
    S_BadSpan,
    se_binds S_BadSpan fun _ _ _ _ _ us hl => match us, hl with | [_, _, _], _ => rfl,
    He.noat_ok (c.a.fact 39 (f := .noat "BadSpan" "start") rfl),
    He.noat_ok (c.a.fact 40 (f := .noat "BadSpan" "end") rfl),
    xfB_ok (exAt c 9),
    He.glo_ok X G (c.a.fact 41 (f := .glo "Impossible") rfl),
    S_Impossible,
    se_binds S_Impossible fun _ _ _ _ _ us hl => match us, hl with | [_, _], _ => rfl,
    He.noat_ok (c.a.fact 42 (f := .noat "Impossible" "fragment") rfl),
    xfB_ok (exAt c 10),
    He.glo_ok X G (c.a.fact 43 (f := .glo "NoFault") rfl),
    S_NoFault,
    se_binds S_NoFault fun _ _ _ _ _ us hl => match us, hl with | [_, _], _ => rfl,
    He.noat_ok (c.a.fact 44 (f := .noat "NoFault" "index") rfl),
    xfB_ok (exAt c 11),
    He.glo_ok X G (c.a.fact 45 (f := .glo "OutsideWindow") rfl),
    S_OutsideWindow,
    se_binds S_OutsideWindow fun _ _ _ _ _ us hl => match us, hl with | [_, _], _ => rfl,
    He.noat_ok (c.a.fact 46 (f := .noat "OutsideWindow" "place") rfl),
    xfB_ok (exAt c 12),
    He.glo_ok X G (c.a.fact 47 (f := .glo "WrongText") rfl),
    S_WrongText,
    se_binds S_WrongText fun _ _ _ _ _ us hl => match us, hl with | [_, _], _ => rfl,
    He.noat_ok (c.a.fact 48 (f := .noat "WrongText" "count") rfl),
    xfB_ok (exAt c 13),
    He.glo_ok X G (c.a.fact 49 (f := .glo "RowEnded") rfl),
    S_RowEnded,
    se_binds S_RowEnded fun _ _ _ _ _ us hl => match us, hl with | [_], _ => rfl,
    xfB_ok (exAt c 14),
    He.glo_ok X G (c.a.fact 50 (f := .glo "SureError") rfl),
    excB_ok (exAt c 15),
    fun n => by
      unfold clA
      rcases nrm_or n with h | h | h | h | h | h | h | h | h | h | h | h | h | h | h
      · rw [h]; exact kitB_ok (exAt c 16)
      · rw [h]; exact kitB_ok (exAt c 17)
      · rw [h]; exact kitB_ok (exAt c 18)
      · rw [h]; exact kitB_ok (exAt c 19)
      · rw [h]; exact kitB_ok (exAt c 20)
      · rw [h]; exact kitB_ok (exAt c 21)
      · rw [h]; exact kitB_ok (exAt c 22)
      · rw [h]; exact kitB_ok (exAt c 23)
      · rw [h]; exact kitB_ok (exAt c 24)
      · rw [h]; exact kitB_ok (exAt c 25)
      · rw [h]; exact kitB_ok (exAt c 26)
      · rw [h]; exact kitB_ok (exAt c 27)
      · rw [h]; exact kitB_ok (exAt c 28)
      · rw [h]; exact kitB_ok (exAt c 29)
      · rw [h]; exact kitB_ok (exAt c 30),
    excB_ok (exAt c 31),
    fun n => by
      unfold clA
      rcases nrm_or n with h | h | h | h | h | h | h | h | h | h | h | h | h | h | h
      · rw [h]; exact kitB_ok (exAt c 32)
      · rw [h]; exact kitB_ok (exAt c 33)
      · rw [h]; exact kitB_ok (exAt c 34)
      · rw [h]; exact kitB_ok (exAt c 35)
      · rw [h]; exact kitB_ok (exAt c 36)
      · rw [h]; exact kitB_ok (exAt c 37)
      · rw [h]; exact kitB_ok (exAt c 38)
      · rw [h]; exact kitB_ok (exAt c 39)
      · rw [h]; exact kitB_ok (exAt c 40)
      · rw [h]; exact kitB_ok (exAt c 41)
      · rw [h]; exact kitB_ok (exAt c 42)
      · rw [h]; exact kitB_ok (exAt c 43)
      · rw [h]; exact kitB_ok (exAt c 44)
      · rw [h]; exact kitB_ok (exAt c 45)
      · rw [h]; exact kitB_ok (exAt c 46),
    excB_ok (exAt c 47),
    fun n => by
      unfold clA
      rcases nrm_or n with h | h | h | h | h | h | h | h | h | h | h | h | h | h | h
      · rw [h]; exact kitB_ok (exAt c 48)
      · rw [h]; exact kitB_ok (exAt c 49)
      · rw [h]; exact kitB_ok (exAt c 50)
      · rw [h]; exact kitB_ok (exAt c 51)
      · rw [h]; exact kitB_ok (exAt c 52)
      · rw [h]; exact kitB_ok (exAt c 53)
      · rw [h]; exact kitB_ok (exAt c 54)
      · rw [h]; exact kitB_ok (exAt c 55)
      · rw [h]; exact kitB_ok (exAt c 56)
      · rw [h]; exact kitB_ok (exAt c 57)
      · rw [h]; exact kitB_ok (exAt c 58)
      · rw [h]; exact kitB_ok (exAt c 59)
      · rw [h]; exact kitB_ok (exAt c 60)
      · rw [h]; exact kitB_ok (exAt c 61)
      · rw [h]; exact kitB_ok (exAt c 62),
    excB_ok (exAt c 63),
    fun n => by
      unfold clA
      rcases nrm_or n with h | h | h | h | h | h | h | h | h | h | h | h | h | h | h
      · rw [h]; exact kitB_ok (exAt c 64)
      · rw [h]; exact kitB_ok (exAt c 65)
      · rw [h]; exact kitB_ok (exAt c 66)
      · rw [h]; exact kitB_ok (exAt c 67)
      · rw [h]; exact kitB_ok (exAt c 68)
      · rw [h]; exact kitB_ok (exAt c 69)
      · rw [h]; exact kitB_ok (exAt c 70)
      · rw [h]; exact kitB_ok (exAt c 71)
      · rw [h]; exact kitB_ok (exAt c 72)
      · rw [h]; exact kitB_ok (exAt c 73)
      · rw [h]; exact kitB_ok (exAt c 74)
      · rw [h]; exact kitB_ok (exAt c 75)
      · rw [h]; exact kitB_ok (exAt c 76)
      · rw [h]; exact kitB_ok (exAt c 77)
      · rw [h]; exact kitB_ok (exAt c 78),
    excB_ok (exAt c 79),
    fun n => by
      unfold clA
      rcases nrm_or n with h | h | h | h | h | h | h | h | h | h | h | h | h | h | h
      · rw [h]; exact kitB_ok (exAt c 80)
      · rw [h]; exact kitB_ok (exAt c 81)
      · rw [h]; exact kitB_ok (exAt c 82)
      · rw [h]; exact kitB_ok (exAt c 83)
      · rw [h]; exact kitB_ok (exAt c 84)
      · rw [h]; exact kitB_ok (exAt c 85)
      · rw [h]; exact kitB_ok (exAt c 86)
      · rw [h]; exact kitB_ok (exAt c 87)
      · rw [h]; exact kitB_ok (exAt c 88)
      · rw [h]; exact kitB_ok (exAt c 89)
      · rw [h]; exact kitB_ok (exAt c 90)
      · rw [h]; exact kitB_ok (exAt c 91)
      · rw [h]; exact kitB_ok (exAt c 92)
      · rw [h]; exact kitB_ok (exAt c 93)
      · rw [h]; exact kitB_ok (exAt c 94),
    excB_ok (exAt c 95),
    fun n => by
      unfold clA
      rcases nrm_or n with h | h | h | h | h | h | h | h | h | h | h | h | h | h | h
      · rw [h]; exact kitB_ok (exAt c 96)
      · rw [h]; exact kitB_ok (exAt c 97)
      · rw [h]; exact kitB_ok (exAt c 98)
      · rw [h]; exact kitB_ok (exAt c 99)
      · rw [h]; exact kitB_ok (exAt c 100)
      · rw [h]; exact kitB_ok (exAt c 101)
      · rw [h]; exact kitB_ok (exAt c 102)
      · rw [h]; exact kitB_ok (exAt c 103)
      · rw [h]; exact kitB_ok (exAt c 104)
      · rw [h]; exact kitB_ok (exAt c 105)
      · rw [h]; exact kitB_ok (exAt c 106)
      · rw [h]; exact kitB_ok (exAt c 107)
      · rw [h]; exact kitB_ok (exAt c 108)
      · rw [h]; exact kitB_ok (exAt c 109)
      · rw [h]; exact kitB_ok (exAt c 110),
    excB_ok (exAt c 111),
    fun n => by
      unfold clA
      rcases nrm_or n with h | h | h | h | h | h | h | h | h | h | h | h | h | h | h
      · rw [h]; exact kitB_ok (exAt c 112)
      · rw [h]; exact kitB_ok (exAt c 113)
      · rw [h]; exact kitB_ok (exAt c 114)
      · rw [h]; exact kitB_ok (exAt c 115)
      · rw [h]; exact kitB_ok (exAt c 116)
      · rw [h]; exact kitB_ok (exAt c 117)
      · rw [h]; exact kitB_ok (exAt c 118)
      · rw [h]; exact kitB_ok (exAt c 119)
      · rw [h]; exact kitB_ok (exAt c 120)
      · rw [h]; exact kitB_ok (exAt c 121)
      · rw [h]; exact kitB_ok (exAt c 122)
      · rw [h]; exact kitB_ok (exAt c 123)
      · rw [h]; exact kitB_ok (exAt c 124)
      · rw [h]; exact kitB_ok (exAt c 125)
      · rw [h]; exact kitB_ok (exAt c 126),
    excB_ok (exAt c 127),
    fun n => by
      unfold clA
      rcases nrm_or n with h | h | h | h | h | h | h | h | h | h | h | h | h | h | h
      · rw [h]; exact kitB_ok (exAt c 128)
      · rw [h]; exact kitB_ok (exAt c 129)
      · rw [h]; exact kitB_ok (exAt c 130)
      · rw [h]; exact kitB_ok (exAt c 131)
      · rw [h]; exact kitB_ok (exAt c 132)
      · rw [h]; exact kitB_ok (exAt c 133)
      · rw [h]; exact kitB_ok (exAt c 134)
      · rw [h]; exact kitB_ok (exAt c 135)
      · rw [h]; exact kitB_ok (exAt c 136)
      · rw [h]; exact kitB_ok (exAt c 137)
      · rw [h]; exact kitB_ok (exAt c 138)
      · rw [h]; exact kitB_ok (exAt c 139)
      · rw [h]; exact kitB_ok (exAt c 140)
      · rw [h]; exact kitB_ok (exAt c 141)
      · rw [h]; exact kitB_ok (exAt c 142),
    excB_ok (exAt c 143),
    fun n => by
      unfold clA
      rcases nrm_or n with h | h | h | h | h | h | h | h | h | h | h | h | h | h | h
      · rw [h]; exact kitB_ok (exAt c 144)
      · rw [h]; exact kitB_ok (exAt c 145)
      · rw [h]; exact kitB_ok (exAt c 146)
      · rw [h]; exact kitB_ok (exAt c 147)
      · rw [h]; exact kitB_ok (exAt c 148)
      · rw [h]; exact kitB_ok (exAt c 149)
      · rw [h]; exact kitB_ok (exAt c 150)
      · rw [h]; exact kitB_ok (exAt c 151)
      · rw [h]; exact kitB_ok (exAt c 152)
      · rw [h]; exact kitB_ok (exAt c 153)
      · rw [h]; exact kitB_ok (exAt c 154)
      · rw [h]; exact kitB_ok (exAt c 155)
      · rw [h]; exact kitB_ok (exAt c 156)
      · rw [h]; exact kitB_ok (exAt c 157)
      · rw [h]; exact kitB_ok (exAt c 158),
    excB_ok (exAt c 159),
    fun n => by
      unfold clA
      rcases nrm_or n with h | h | h | h | h | h | h | h | h | h | h | h | h | h | h
      · rw [h]; exact kitB_ok (exAt c 160)
      · rw [h]; exact kitB_ok (exAt c 161)
      · rw [h]; exact kitB_ok (exAt c 162)
      · rw [h]; exact kitB_ok (exAt c 163)
      · rw [h]; exact kitB_ok (exAt c 164)
      · rw [h]; exact kitB_ok (exAt c 165)
      · rw [h]; exact kitB_ok (exAt c 166)
      · rw [h]; exact kitB_ok (exAt c 167)
      · rw [h]; exact kitB_ok (exAt c 168)
      · rw [h]; exact kitB_ok (exAt c 169)
      · rw [h]; exact kitB_ok (exAt c 170)
      · rw [h]; exact kitB_ok (exAt c 171)
      · rw [h]; exact kitB_ok (exAt c 172)
      · rw [h]; exact kitB_ok (exAt c 173)
      · rw [h]; exact kitB_ok (exAt c 174),
    excB_ok (exAt c 175),
    fun n => by
      unfold clA
      rcases nrm_or n with h | h | h | h | h | h | h | h | h | h | h | h | h | h | h
      · rw [h]; exact kitB_ok (exAt c 176)
      · rw [h]; exact kitB_ok (exAt c 177)
      · rw [h]; exact kitB_ok (exAt c 178)
      · rw [h]; exact kitB_ok (exAt c 179)
      · rw [h]; exact kitB_ok (exAt c 180)
      · rw [h]; exact kitB_ok (exAt c 181)
      · rw [h]; exact kitB_ok (exAt c 182)
      · rw [h]; exact kitB_ok (exAt c 183)
      · rw [h]; exact kitB_ok (exAt c 184)
      · rw [h]; exact kitB_ok (exAt c 185)
      · rw [h]; exact kitB_ok (exAt c 186)
      · rw [h]; exact kitB_ok (exAt c 187)
      · rw [h]; exact kitB_ok (exAt c 188)
      · rw [h]; exact kitB_ok (exAt c 189)
      · rw [h]; exact kitB_ok (exAt c 190),
    excB_ok (exAt c 191),
    fun n => by
      unfold clA
      rcases nrm_or n with h | h | h | h | h | h | h | h | h | h | h | h | h | h | h
      · rw [h]; exact kitB_ok (exAt c 192)
      · rw [h]; exact kitB_ok (exAt c 193)
      · rw [h]; exact kitB_ok (exAt c 194)
      · rw [h]; exact kitB_ok (exAt c 195)
      · rw [h]; exact kitB_ok (exAt c 196)
      · rw [h]; exact kitB_ok (exAt c 197)
      · rw [h]; exact kitB_ok (exAt c 198)
      · rw [h]; exact kitB_ok (exAt c 199)
      · rw [h]; exact kitB_ok (exAt c 200)
      · rw [h]; exact kitB_ok (exAt c 201)
      · rw [h]; exact kitB_ok (exAt c 202)
      · rw [h]; exact kitB_ok (exAt c 203)
      · rw [h]; exact kitB_ok (exAt c 204)
      · rw [h]; exact kitB_ok (exAt c 205)
      · rw [h]; exact kitB_ok (exAt c 206),
    excB_ok (exAt c 207),
    fun n => by
      unfold clA
      rcases nrm_or n with h | h | h | h | h | h | h | h | h | h | h | h | h | h | h
      · rw [h]; exact kitB_ok (exAt c 208)
      · rw [h]; exact kitB_ok (exAt c 209)
      · rw [h]; exact kitB_ok (exAt c 210)
      · rw [h]; exact kitB_ok (exAt c 211)
      · rw [h]; exact kitB_ok (exAt c 212)
      · rw [h]; exact kitB_ok (exAt c 213)
      · rw [h]; exact kitB_ok (exAt c 214)
      · rw [h]; exact kitB_ok (exAt c 215)
      · rw [h]; exact kitB_ok (exAt c 216)
      · rw [h]; exact kitB_ok (exAt c 217)
      · rw [h]; exact kitB_ok (exAt c 218)
      · rw [h]; exact kitB_ok (exAt c 219)
      · rw [h]; exact kitB_ok (exAt c 220)
      · rw [h]; exact kitB_ok (exAt c 221)
      · rw [h]; exact kitB_ok (exAt c 222),
    excB_ok (exAt c 223),
    fun n => by
      unfold clA
      rcases nrm_or n with h | h | h | h | h | h | h | h | h | h | h | h | h | h | h
      · rw [h]; exact kitB_ok (exAt c 224)
      · rw [h]; exact kitB_ok (exAt c 225)
      · rw [h]; exact kitB_ok (exAt c 226)
      · rw [h]; exact kitB_ok (exAt c 227)
      · rw [h]; exact kitB_ok (exAt c 228)
      · rw [h]; exact kitB_ok (exAt c 229)
      · rw [h]; exact kitB_ok (exAt c 230)
      · rw [h]; exact kitB_ok (exAt c 231)
      · rw [h]; exact kitB_ok (exAt c 232)
      · rw [h]; exact kitB_ok (exAt c 233)
      · rw [h]; exact kitB_ok (exAt c 234)
      · rw [h]; exact kitB_ok (exAt c 235)
      · rw [h]; exact kitB_ok (exAt c 236)
      · rw [h]; exact kitB_ok (exAt c 237)
      · rw [h]; exact kitB_ok (exAt c 238),
    excB_ok (exAt c 239),
    fun n => by
      unfold clA
      rcases nrm_or n with h | h | h | h | h | h | h | h | h | h | h | h | h | h | h
      · rw [h]; exact kitB_ok (exAt c 240)
      · rw [h]; exact kitB_ok (exAt c 241)
      · rw [h]; exact kitB_ok (exAt c 242)
      · rw [h]; exact kitB_ok (exAt c 243)
      · rw [h]; exact kitB_ok (exAt c 244)
      · rw [h]; exact kitB_ok (exAt c 245)
      · rw [h]; exact kitB_ok (exAt c 246)
      · rw [h]; exact kitB_ok (exAt c 247)
      · rw [h]; exact kitB_ok (exAt c 248)
      · rw [h]; exact kitB_ok (exAt c 249)
      · rw [h]; exact kitB_ok (exAt c 250)
      · rw [h]; exact kitB_ok (exAt c 251)
      · rw [h]; exact kitB_ok (exAt c 252)
      · rw [h]; exact kitB_ok (exAt c 253)
      · rw [h]; exact kitB_ok (exAt c 254),
    fun n => by
      unfold clA
      rcases nrm_or n with h | h | h | h | h | h | h | h | h | h | h | h | h | h | h
      · rw [h]; exact kitB_ok (exAt c 255)
      · rw [h]; exact kitB_ok (exAt c 256)
      · rw [h]; exact kitB_ok (exAt c 257)
      · rw [h]; exact kitB_ok (exAt c 258)
      · rw [h]; exact kitB_ok (exAt c 259)
      · rw [h]; exact kitB_ok (exAt c 260)
      · rw [h]; exact kitB_ok (exAt c 261)
      · rw [h]; exact kitB_ok (exAt c 262)
      · rw [h]; exact kitB_ok (exAt c 263)
      · rw [h]; exact kitB_ok (exAt c 264)
      · rw [h]; exact kitB_ok (exAt c 265)
      · rw [h]; exact kitB_ok (exAt c 266)
      · rw [h]; exact kitB_ok (exAt c 267)
      · rw [h]; exact kitB_ok (exAt c 268)
      · rw [h]; exact kitB_ok (exAt c 269),
    fun n => by
      unfold clA
      rcases nrm_or n with h | h | h | h | h | h | h | h | h | h | h | h | h | h | h
      · rw [h]; exact kitVB_ok (exAt c 270)
      · rw [h]; exact kitVB_ok (exAt c 271)
      · rw [h]; exact kitVB_ok (exAt c 272)
      · rw [h]; exact kitVB_ok (exAt c 273)
      · rw [h]; exact kitVB_ok (exAt c 274)
      · rw [h]; exact kitVB_ok (exAt c 275)
      · rw [h]; exact kitVB_ok (exAt c 276)
      · rw [h]; exact kitVB_ok (exAt c 277)
      · rw [h]; exact kitVB_ok (exAt c 278)
      · rw [h]; exact kitVB_ok (exAt c 279)
      · rw [h]; exact kitVB_ok (exAt c 280)
      · rw [h]; exact kitVB_ok (exAt c 281)
      · rw [h]; exact kitVB_ok (exAt c 282)
      · rw [h]; exact kitVB_ok (exAt c 283)
      · rw [h]; exact kitVB_ok (exAt c 284)⟩, rfl, fun s v => b s [v] rfl⟩
end
abbrev R : PySem.W.OpenRow := PySem.W.OpenLaw.row PySem.Challenge.rw_surefaults_k04_errors
def loose : List PySem.Str := (["__name__", "SureError", "BadCount", "BadRule", "BadLine", "UnknownName", "NoValidText", "TooLong", "TooManySteps", "BadSign", "BadIndex", "BadSpan", "Impossible", "NoFault", "OutsideWindow", "WrongText", "RowEnded", "_law_cell", "_law_is_number", "_law_kinds", "_law_same", "_law_any_kept"] : List PySem.Str)
abbrev hk : PySem.W.Hook := hookQ 7 faA fnA erA exA
def ob (s : PySem.W.SharedT) : AlQ := obsQG 7 faA fnA erA exA (HandSHeadRun.getT s)
theorem ob_eq (s : PySem.W.SharedT) : ob s = hk.obs s.abs := obsQG_eq (HandSHeadRun.getT_eq s)
set_option maxHeartbeats 0 in
theorem run (w : World) : HandSHeadRun.RunEq R (PySem.W.view R.prog [23]) hk ob 200000 loose w := by
  intro os
  kernel_rfl
end SF
set_option Elab.async false
set_option linter.all false
set_option maxRecDepth 100000
set_option maxHeartbeats 4000000
namespace SF
open PySem PySem.Spec PyProof.Rows L2
def sp_cell (K : PySem.W.Frag) : Sp := fun vs H Q _ => ∃ (a : Addr) (ns : List Int) (k : Nat), vs = [.ref a, .int k] ∧ SqL K H a (ns.map V.int) ∧ Q (.int (ns[k]?.getD 0)) H
section
variable {P : Program} {w : World} {K : PySem.W.Frag} {mg : Str → Option Value} {base : Heap} {a : Ad}
theorem ok_cell (T : Txt K mg a) : FnOk P w K mg base CX0 1 a._law_cell a.d__law_cell ["_law_script", "_law_k"] (sp_cell K) := by
  refine T.f__law_cell.ok sc__law_cell (fun vs H Q E h => ?_) (fun cdv A outer s H vs Q E hr h => ?_)
  · obtain ⟨q, ns, k, rfl, _⟩ := h; rfl
  · obtain ⟨q, ns, k, rfl, hq, hk⟩ := h
    refine ⟨_, (pss_cons (ps_if (pt_cmpR op_lt (pv 1) (pe_callB (call_lenK (K := K)) (by rfl) T.z_len PySem.boot_len (pa_cons (pv 0) pa_nil)) (nomark _))
    (pss_one (ps_ret (pe_ix (ix_listK (K := K)) (pv 0) (pv 1) (fun _ _ => rfl))))
    pss_nil)
  (pss_one (ps_ret pe_int))), ?_⟩
    refine ⟨_, rfl, _, rfl, q, _, rfl, .inl hq, _, _, rfl, rfl, _, rfl, ?_⟩
    rw [List.length_map]
    by_cases hlt : k < ns.length
    · rw [decide_eq_true (show ((k : Nat) : Int) < ((ns.length : Nat) : Int) by omega)]
      refine iteT ⟨_, rfl, _, rfl, q, _, _, .int ns[k], rfl, rfl, hq, at_of (j := k) rfl (by rw [List.getElem?_map, List.getElem?_eq_getElem hlt]; rfl), ?_⟩
      rw [List.getElem?_eq_getElem hlt] at hk
      exact hk
    · rw [decide_eq_false (show ¬ ((k : Nat) : Int) < ((ns.length : Nat) : Int) by omega)]
      refine iteF ?_
      rw [List.getElem?_eq_none (by omega)] at hk
      exact hk
end
end SF
/-! ### the script and its cells -/
namespace SF
open PySem PySem.Spec PyProof.Rows L2
/-- the script -/
def scr (K : PySem.W.Frag) : R3 (List Int) := fun _ _ H v xs => ∃ a, v = .ref a ∧ SqL K H a (xs.map V.int)
theorem sql_up {K : PySem.W.Frag} {H H1 : Hp} {a : Addr} {xs : List V} (h : SqL K H a xs) (s : Same H H1) : SqL K H1 a xs := by
  rcases h with h | h
  · rcases h with h | ⟨o, h⟩
    · exact .inl (.inl (s _ _ h))
    · exact .inl (.inr ⟨o, s _ _ h⟩)
  · exact .inr h
instance {K : PySem.W.Frag} : Dn (scr K) := ⟨fun _ h => h⟩
instance {K : PySem.W.Frag} : Up (scr K) := ⟨fun e h => by obtain ⟨a, e1, h1⟩ := h; exact ⟨a, e1, sql_up h1 e.hh⟩⟩
instance {K : PySem.W.Frag} : Fl (scr K) := ⟨fun h => h⟩
@[irreducible] def w_cell (s : List Int) (k : Nat) : M Int := .ok (s[k]?.getD 0)
abbrev cl0 : Nat → Addr := fun _ => 0
section
variable {P : Program} {w : World} {K : PySem.W.Frag} {mg : Str → Option Value} {base : Heap} {a : Ad}
theorem ok_w_cell (T : Txt K mg a) : FnOk P w K mg base CX0 1 a._law_cell a.d__law_cell ["_law_script", "_law_k"] (Pm False cl0 (rac (scr K) (rac (fz rNat) ran)) (fz rI) (fun x => w_cell x.1 x.2.1)) :=
  ((ok_cell T).mono (by decide)).imp fun vs H Q E h => by
    obtain ⟨F, ⟨s, k, u⟩, sF, ⟨v1, us1, rfl, ⟨b, rfl, hs⟩, v2, us2, rfl, h2, rfl⟩, h⟩ := h
    unfold w_cell at h
    exact ⟨b, s, k, by rw [show v2 = _ from h2], hs, h _ F H (Xt.refl sF) rfl⟩
end
end SF
namespace SF
open PySem PySem.Spec PyProof.Rows L2
@[irreducible] noncomputable def m__law_is_number (x_1 : IT) : M Bool := (M.ok ((Sum.elim (fun _ => true) (fun _ => false) x_1) && (!(Sum.elim (fun _ => false) (fun _ => false) x_1))))
def sp_m__law_is_number (a : Ad) : Sp := Pm False (fun _ => 0) (rac (fz qV) ran) (fz rB) (fun (x : IT × Unit) => m__law_is_number x.1)
theorem ok_m__law_is_number {P : Program} {w : World} {K : PySem.W.Frag} {mg : Str → Option Value} {base : Heap} {a : Ad} (T : Txt K mg a) : FnOk P w K mg base CX0 1 a._law_is_number a.d__law_is_number ["_law_x"] (sp_m__law_is_number a) := by
  refine T.f__law_is_number.ok sc__law_is_number (fun vs H Q E h => ?_) (fun cdv A outer s H vs Q E hr h => ?_)
  · obtain ⟨F, x, _, hR, _⟩ := h
    obtain ⟨_, _, rfl, _, rfl⟩ := hR
    rfl
  obtain ⟨F, ⟨x_1, u0⟩, sF, hR, h⟩ := h
  obtain ⟨v2, _, rfl, h3, rfl⟩ := hR
  refine ⟨_, (pss_cons (ps_ret (pe_and (pe_callB (isiK (K := K)) (by rfl) T.z_isinstance (by decide +kernel) (pa_cons (pv 0) (pa_cons (pe_bltn (v := .ty "int") (u := .type "int") (by rfl) T.z_int (by decide +kernel) rfl) pa_nil))) (pe_one (pe_not (pe_callB (isiK (K := K)) (by rfl) T.z_isinstance (by decide +kernel) (pa_cons (pv 0) (pa_cons (pe_bltn (v := .ty "bool") (u := .type "bool") (by rfl) T.z_bool (by decide +kernel) rfl) pa_nil)))))))
  pss_nil), ?_⟩
  have e := Xt.refl sF
  let c : Cxt Bool := ⟨⟨False, E, (fun _ => 0)⟩, Q, (fz rB), F, H⟩
  have h : Po c (m__law_is_number x_1) := h
  unfold m__law_is_number at h
  exact sq_ret (c := c) (e_andP (e_isiV (K := K) (c := "int") (b1 := true) (b2 := false) (by decide +kernel) (by decide +kernel) (e_var (r := qV) (i := 0) h3 rfl)) (e_not (e_isiV (K := K) (c := "bool") (b1 := false) (b2 := false) (by decide +kernel) (by decide +kernel) (e_var (r := qV) (i := 0) h3 rfl)))) e h fun _ _ q => q

@[irreducible] noncomputable def m__law_kinds (e_1 : Ex) : M (List Bool) := (M.ok [(decide (nrm e_1.cls = 0)), (decide (nrm e_1.cls = 8)), (decide (nrm e_1.cls = 2)), (decide (nrm e_1.cls = 1)), (decide (nrm e_1.cls = 7)), (decide (nrm e_1.cls = 9)), (decide (nrm e_1.cls = 10)), (decide (nrm e_1.cls = 11)), (decide (nrm e_1.cls = 4)), (decide (nrm e_1.cls = 12)), (decide (nrm e_1.cls = 14)), (decide (nrm e_1.cls = 5)), (decide (nrm e_1.cls = 6)), (decide (nrm e_1.cls = 3)), (decide (nrm e_1.cls = 13))])
def sp_m__law_kinds (a : Ad) : Sp := Pm False (fun _ => 0) (rac (fz (rEx (clA a))) ran) (fz (qL rB)) (fun (x : Ex × Unit) => m__law_kinds x.1)
theorem ok_m__law_kinds {P : Program} {w : World} {K : PySem.W.Frag} {mg : Str → Option Value} {base : Heap} {a : Ad} (T : Txt K mg a) : FnOk P w K mg base CX0 1 a._law_kinds a.d__law_kinds ["_law_e"] (sp_m__law_kinds a) := by
  refine T.f__law_kinds.ok sc__law_kinds (fun vs H Q E h => ?_) (fun cdv A outer s H vs Q E hr h => ?_)
  · obtain ⟨F, x, _, hR, _⟩ := h
    obtain ⟨_, _, rfl, _, rfl⟩ := hR
    rfl
  obtain ⟨F, ⟨e_1, u0⟩, sF, hR, h⟩ := h
  obtain ⟨v2, _, rfl, h3, rfl⟩ := hR
  refine ⟨_, (pss_cons (ps_ret (pe_lst (pa_cons (pe_callB (call_isXK (K := K)) (by rfl) T.z_isinstance (by decide +kernel) (pa_cons (pv 0) (pa_cons (pe_glob (v := .ref a.BadCount) (by rfl) T.m_BadCount rfl) pa_nil))) (pa_cons (pe_callB (call_isXK (K := K)) (by rfl) T.z_isinstance (by decide +kernel) (pa_cons (pv 0) (pa_cons (pe_glob (v := .ref a.BadIndex) (by rfl) T.m_BadIndex rfl) pa_nil))) (pa_cons (pe_callB (call_isXK (K := K)) (by rfl) T.z_isinstance (by decide +kernel) (pa_cons (pv 0) (pa_cons (pe_glob (v := .ref a.BadLine) (by rfl) T.m_BadLine rfl) pa_nil))) (pa_cons (pe_callB (call_isXK (K := K)) (by rfl) T.z_isinstance (by decide +kernel) (pa_cons (pv 0) (pa_cons (pe_glob (v := .ref a.BadRule) (by rfl) T.m_BadRule rfl) pa_nil))) (pa_cons (pe_callB (call_isXK (K := K)) (by rfl) T.z_isinstance (by decide +kernel) (pa_cons (pv 0) (pa_cons (pe_glob (v := .ref a.BadSign) (by rfl) T.m_BadSign rfl) pa_nil))) (pa_cons (pe_callB (call_isXK (K := K)) (by rfl) T.z_isinstance (by decide +kernel) (pa_cons (pv 0) (pa_cons (pe_glob (v := .ref a.BadSpan) (by rfl) T.m_BadSpan rfl) pa_nil))) (pa_cons (pe_callB (call_isXK (K := K)) (by rfl) T.z_isinstance (by decide +kernel) (pa_cons (pv 0) (pa_cons (pe_glob (v := .ref a.Impossible) (by rfl) T.m_Impossible rfl) pa_nil))) (pa_cons (pe_callB (call_isXK (K := K)) (by rfl) T.z_isinstance (by decide +kernel) (pa_cons (pv 0) (pa_cons (pe_glob (v := .ref a.NoFault) (by rfl) T.m_NoFault rfl) pa_nil))) (pa_cons (pe_callB (call_isXK (K := K)) (by rfl) T.z_isinstance (by decide +kernel) (pa_cons (pv 0) (pa_cons (pe_glob (v := .ref a.NoValidText) (by rfl) T.m_NoValidText rfl) pa_nil))) (pa_cons (pe_callB (call_isXK (K := K)) (by rfl) T.z_isinstance (by decide +kernel) (pa_cons (pv 0) (pa_cons (pe_glob (v := .ref a.OutsideWindow) (by rfl) T.m_OutsideWindow rfl) pa_nil))) (pa_cons (pe_callB (call_isXK (K := K)) (by rfl) T.z_isinstance (by decide +kernel) (pa_cons (pv 0) (pa_cons (pe_glob (v := .ref a.RowEnded) (by rfl) T.m_RowEnded rfl) pa_nil))) (pa_cons (pe_callB (call_isXK (K := K)) (by rfl) T.z_isinstance (by decide +kernel) (pa_cons (pv 0) (pa_cons (pe_glob (v := .ref a.TooLong) (by rfl) T.m_TooLong rfl) pa_nil))) (pa_cons (pe_callB (call_isXK (K := K)) (by rfl) T.z_isinstance (by decide +kernel) (pa_cons (pv 0) (pa_cons (pe_glob (v := .ref a.TooManySteps) (by rfl) T.m_TooManySteps rfl) pa_nil))) (pa_cons (pe_callB (call_isXK (K := K)) (by rfl) T.z_isinstance (by decide +kernel) (pa_cons (pv 0) (pa_cons (pe_glob (v := .ref a.UnknownName) (by rfl) T.m_UnknownName rfl) pa_nil))) (pa_cons (pe_callB (call_isXK (K := K)) (by rfl) T.z_isinstance (by decide +kernel) (pa_cons (pv 0) (pa_cons (pe_glob (v := .ref a.WrongText) (by rfl) T.m_WrongText rfl) pa_nil))) pa_nil)))))))))))))))))
  pss_nil), ?_⟩
  have e := Xt.refl sF
  let c : Cxt (List Bool) := ⟨⟨False, E, (fun _ => 0)⟩, Q, (fz (qL rB)), F, H⟩
  have h : Po c (m__law_kinds e_1) := h
  unfold m__law_kinds at h
  exact sq_ret (c := c) (e_frz (e_lstP (r := rB) (al_cons (e_isX (K := K) (c := .ref a.BadCount) (b := fun n => decide (nrm n = 0)) (xc_all T) (fun _ h => h) T.kx_BadCount (e_var (r := (rEx (clA a))) (i := 0) h3 rfl)) (al_cons (e_isX (K := K) (c := .ref a.BadIndex) (b := fun n => decide (nrm n = 8)) (xc_all T) (fun _ h => h) T.kx_BadIndex (e_var (r := (rEx (clA a))) (i := 0) h3 rfl)) (al_cons (e_isX (K := K) (c := .ref a.BadLine) (b := fun n => decide (nrm n = 2)) (xc_all T) (fun _ h => h) T.kx_BadLine (e_var (r := (rEx (clA a))) (i := 0) h3 rfl)) (al_cons (e_isX (K := K) (c := .ref a.BadRule) (b := fun n => decide (nrm n = 1)) (xc_all T) (fun _ h => h) T.kx_BadRule (e_var (r := (rEx (clA a))) (i := 0) h3 rfl)) (al_cons (e_isX (K := K) (c := .ref a.BadSign) (b := fun n => decide (nrm n = 7)) (xc_all T) (fun _ h => h) T.kx_BadSign (e_var (r := (rEx (clA a))) (i := 0) h3 rfl)) (al_cons (e_isX (K := K) (c := .ref a.BadSpan) (b := fun n => decide (nrm n = 9)) (xc_all T) (fun _ h => h) T.kx_BadSpan (e_var (r := (rEx (clA a))) (i := 0) h3 rfl)) (al_cons (e_isX (K := K) (c := .ref a.Impossible) (b := fun n => decide (nrm n = 10)) (xc_all T) (fun _ h => h) T.kx_Impossible (e_var (r := (rEx (clA a))) (i := 0) h3 rfl)) (al_cons (e_isX (K := K) (c := .ref a.NoFault) (b := fun n => decide (nrm n = 11)) (xc_all T) (fun _ h => h) T.kx_NoFault (e_var (r := (rEx (clA a))) (i := 0) h3 rfl)) (al_cons (e_isX (K := K) (c := .ref a.NoValidText) (b := fun n => decide (nrm n = 4)) (xc_all T) (fun _ h => h) T.kx_NoValidText (e_var (r := (rEx (clA a))) (i := 0) h3 rfl)) (al_cons (e_isX (K := K) (c := .ref a.OutsideWindow) (b := fun n => decide (nrm n = 12)) (xc_all T) (fun _ h => h) T.kx_OutsideWindow (e_var (r := (rEx (clA a))) (i := 0) h3 rfl)) (al_cons (e_isX (K := K) (c := .ref a.RowEnded) (b := fun n => decide (nrm n = 14)) (xc_all T) (fun _ h => h) T.kx_RowEnded (e_var (r := (rEx (clA a))) (i := 0) h3 rfl)) (al_cons (e_isX (K := K) (c := .ref a.TooLong) (b := fun n => decide (nrm n = 5)) (xc_all T) (fun _ h => h) T.kx_TooLong (e_var (r := (rEx (clA a))) (i := 0) h3 rfl)) (al_cons (e_isX (K := K) (c := .ref a.TooManySteps) (b := fun n => decide (nrm n = 6)) (xc_all T) (fun _ h => h) T.kx_TooManySteps (e_var (r := (rEx (clA a))) (i := 0) h3 rfl)) (al_cons (e_isX (K := K) (c := .ref a.UnknownName) (b := fun n => decide (nrm n = 3)) (xc_all T) (fun _ h => h) T.kx_UnknownName (e_var (r := (rEx (clA a))) (i := 0) h3 rfl)) (al_cons (e_isX (K := K) (c := .ref a.WrongText) (b := fun n => decide (nrm n = 13)) (xc_all T) (fun _ h => h) T.kx_WrongText (e_var (r := (rEx (clA a))) (i := 0) h3 rfl)) al_nil))))))))))))))) (by simp))) e h fun _ _ q => q

@[irreducible] noncomputable def m__law_same (told_1 : IT) (due_4 : IT) : M Bool := M.ite (M.ok (Sum.elim (fun _ => true) (fun _ => false) due_4)) ((M.ite (m__law_is_number told_1) (M.ok (decide (told_1 = due_4))) (M.ok false))) ((M.ok ((Sum.elim (fun _ => false) (fun _ => true) told_1) && (decide (told_1 = due_4)))))
def sp_m__law_same (a : Ad) : Sp := Pm False (fun _ => 0) (rac (fz qV) (rac (fz qV) ran)) (fz rB) (fun (x : IT × IT × Unit) => m__law_same x.1 x.2.1)
theorem ok_m__law_same {P : Program} {w : World} {K : PySem.W.Frag} {mg : Str → Option Value} {base : Heap} {a : Ad} (T : Txt K mg a) : FnOk P w K mg base CX0 2 a._law_same a.d__law_same ["_law_told", "_law_due"] (sp_m__law_same a) := by
  have G__law_is_number := ok_m__law_is_number (P := P) (w := w) (base := base) T
  refine T.f__law_same.ok sc__law_same (fun vs H Q E h => ?_) (fun cdv A outer s H vs Q E hr h => ?_)
  · obtain ⟨F, x, _, hR, _⟩ := h
    obtain ⟨_, _, rfl, _, _, _, rfl, _, rfl⟩ := hR
    rfl
  obtain ⟨F, ⟨told_1, due_4, u0⟩, sF, hR, h⟩ := h
  obtain ⟨v2, _, rfl, h3, v5, _, rfl, h6, rfl⟩ := hR
  refine ⟨_, (pss_cons (ps_if (pt_val (pe_callB (isiK (K := K)) (by rfl) T.z_isinstance (by decide +kernel) (pa_cons (pv 1) (pa_cons (pe_bltn (v := .ty "int") (u := .type "int") (by rfl) T.z_int (by decide +kernel) rfl) pa_nil))))
    (pss_cons (ps_ret (pe_and (pe_call G__law_is_number (hr.mono (by decide)) (by rfl) T.m__law_is_number T.f__law_is_number.kp T.b__law_is_number .nil pass0 (pa_cons (pv 0) pa_nil)) (pe_one (pe_cmpR op_eq (pv 0) (pv 1) (nomark _)))))
  pss_nil)
    pss_nil)
  (pss_cons (ps_ret (pe_and (pe_callB (isiK (K := K)) (by rfl) T.z_isinstance (by decide +kernel) (pa_cons (pv 0) (pa_cons (pe_bltn (v := .ty "str") (u := .type "str") (by rfl) T.z_str (by decide +kernel) rfl) pa_nil))) (pe_one (pe_cmpR op_eq (pv 0) (pv 1) (nomark _)))))
  pss_nil)), ?_⟩
  have e := Xt.refl sF
  let c : Cxt Bool := ⟨⟨False, E, (fun _ => 0)⟩, Q, (fz rB), F, H⟩
  have h : Po c (m__law_same told_1 due_4) := h
  unfold m__law_same at h
  refine sq_if (c := c) (t_val (e_isiV (K := K) (c := "int") (b1 := true) (b2 := false) (by decide +kernel) (by decide +kernel) (e_var (r := qV) (i := 1) h6 rfl))) e h (fun F7 H8 e9 h => ?_) (fun F7 H8 e9 h => ?_)
  ·
    replace h3 := Mono.mono (r := qV) e9.ff h3
    replace h6 := Mono.mono (r := qV) e9.ff h6
    have e10 := e.trans e9
    exact sq_ret (c := c) (e_and (e_call (f := (fun (x : IT × Unit) => m__law_is_number x.1)) (fun h => h) (a_cons (e_var (r := qV) (i := 0) h3 rfl) a_nil)) (e_eq (e_var (r := qV) (i := 0) h3 rfl) (e_var (r := qV) (i := 1) h6 rfl))) e10 h fun _ _ q => q
  ·
    replace h3 := Mono.mono (r := qV) e9.ff h3
    replace h6 := Mono.mono (r := qV) e9.ff h6
    have e11 := e.trans e9
    exact sq_ret (c := c) (e_andP (e_isiV (K := K) (c := "str") (b1 := false) (b2 := true) (by decide +kernel) (by decide +kernel) (e_var (r := qV) (i := 0) h3 rfl)) (e_eq (e_var (r := qV) (i := 0) h3 rfl) (e_var (r := qV) (i := 1) h6 rfl))) e11 h fun _ _ q => q

@[irreducible] noncomputable def m__law_any_kept (worth_1 : Wt) : M Bool := (M.ok [worth_1, worth_1, worth_1, worth_1, worth_1, worth_1, worth_1, worth_1, worth_1, worth_1, worth_1, worth_1, worth_1, worth_1]).bd fun told_8 => (((M.gd (14 ≤ sizeLine) (M.ok (List.range' 0 14))).bd fun z => M.ok (z.map fun x11 => worth_1)).bd fun t17 => M.gd (Deep.okd (qL qW) told_8 = true ∧ Deep.okd (qL qW) t17 = true) (M.ok (decide (told_8 = t17))))
def sp_m__law_any_kept (a : Ad) : Sp := Pm False (fun _ => 0) (rac (fz qW) ran) (fz rB) (fun (x : Wt × Unit) => m__law_any_kept x.1)
theorem ok_m__law_any_kept {w : World} {K : PySem.W.Frag} {mg : Str → Option Value} {base : Heap} {a : Ad} (T : Txt K mg a) : FnOk PW w K mg base CX0 3 a._law_any_kept a.d__law_any_kept ["_law_worth"] (sp_m__law_any_kept a) := by
  have GX_BadCount := se1 (CX := CX0) (w := w) (base := base) T.se_BadCount ns_BadCount rfl rfl (fun env => ⟨_, rfl⟩) ⟨_, rfl, rfl⟩ T.no_BadCount_count (by decide) (by decide) (fun env => rfl)
  have GX_BadIndex := se1 (CX := CX0) (w := w) (base := base) T.se_BadIndex ns_BadIndex rfl rfl (fun env => ⟨_, rfl⟩) ⟨_, rfl, rfl⟩ T.no_BadIndex_index (by decide) (by decide) (fun env => rfl)
  have GX_BadLine := se1 (CX := CX0) (w := w) (base := base) T.se_BadLine ns_BadLine rfl rfl (fun env => ⟨_, rfl⟩) ⟨_, rfl, rfl⟩ T.no_BadLine_line (by decide) (by decide) (fun env => rfl)
  have GX_BadRule := se1 (CX := CX0) (w := w) (base := base) T.se_BadRule ns_BadRule rfl rfl (fun env => ⟨_, rfl⟩) ⟨_, rfl, rfl⟩ T.no_BadRule_number (by decide) (by decide) (fun env => rfl)
  have GX_BadSign := se1 (CX := CX0) (w := w) (base := base) T.se_BadSign ns_BadSign rfl rfl (fun env => ⟨_, rfl⟩) ⟨_, rfl, rfl⟩ T.no_BadSign_index (by decide) (by decide) (fun env => rfl)
  have GX_BadSpan := se2 (CX := CX0) (w := w) (base := base) T.se_BadSpan ns_BadSpan rfl rfl (fun env => ⟨_, rfl⟩) ⟨_, rfl, rfl⟩ T.no_BadSpan_start T.no_BadSpan_end (by decide) (by decide) (fun env => rfl) (by decide) (by decide) (fun env => rfl)
  have GX_Impossible := se1 (CX := CX0) (w := w) (base := base) T.se_Impossible ns_Impossible rfl rfl (fun env => ⟨_, rfl⟩) ⟨_, rfl, rfl⟩ T.no_Impossible_fragment (by decide) (by decide) (fun env => rfl)
  have GX_NoFault := se1 (CX := CX0) (w := w) (base := base) T.se_NoFault ns_NoFault rfl rfl (fun env => ⟨_, rfl⟩) ⟨_, rfl, rfl⟩ T.no_NoFault_index (by decide) (by decide) (fun env => rfl)
  have GX_OutsideWindow := se1 (CX := CX0) (w := w) (base := base) T.se_OutsideWindow ns_OutsideWindow rfl rfl (fun env => ⟨_, rfl⟩) ⟨_, rfl, rfl⟩ T.no_OutsideWindow_place (by decide) (by decide) (fun env => rfl)
  have GX_TooLong := se1 (CX := CX0) (w := w) (base := base) T.se_TooLong ns_TooLong rfl rfl (fun env => ⟨_, rfl⟩) ⟨_, rfl, rfl⟩ T.no_TooLong_length (by decide) (by decide) (fun env => rfl)
  have GX_TooManySteps := se1 (CX := CX0) (w := w) (base := base) T.se_TooManySteps ns_TooManySteps rfl rfl (fun env => ⟨_, rfl⟩) ⟨_, rfl, rfl⟩ T.no_TooManySteps_count (by decide) (by decide) (fun env => rfl)
  have GX_UnknownName := se1 (CX := CX0) (w := w) (base := base) T.se_UnknownName ns_UnknownName rfl rfl (fun env => ⟨_, rfl⟩) ⟨_, rfl, rfl⟩ T.no_UnknownName_name (by decide) (by decide) (fun env => rfl)
  have GX_WrongText := se1 (CX := CX0) (w := w) (base := base) T.se_WrongText ns_WrongText rfl rfl (fun env => ⟨_, rfl⟩) ⟨_, rfl, rfl⟩ T.no_WrongText_count (by decide) (by decide) (fun env => rfl)
  refine T.f__law_any_kept.ok sc__law_any_kept (fun vs H Q E h => ?_) (fun cdv A outer s H vs Q E hr h => ?_)
  · obtain ⟨F, x, _, hR, _⟩ := h
    obtain ⟨_, _, rfl, _, rfl⟩ := hR
    rfl
  obtain ⟨F, ⟨worth_1, u0⟩, sF, hR, h⟩ := h
  obtain ⟨v2, _, rfl, h3, rfl⟩ := hR
  refine ⟨_, (pss_cons (ps_set (i := 1) sc__law_any_kept.nd rfl (Or.inl rfl) (pe_lst (pa_cons (pe_fldXK (K := K) (pe_oexV T.se_BadCount.oex T.se_BadCount.iC T.se_BadCount.tI GX_BadCount (hr.mono (by decide)) T.b_BadCount___init__ pass0 rfl T.m_BadCount (pa_cons (pv 0) pa_nil))) (pa_cons (pe_fldXK (K := K) (pe_oexV T.se_BadIndex.oex T.se_BadIndex.iC T.se_BadIndex.tI GX_BadIndex (hr.mono (by decide)) T.b_BadIndex___init__ pass0 rfl T.m_BadIndex (pa_cons (pv 0) pa_nil))) (pa_cons (pe_fldXK (K := K) (pe_oexV T.se_BadLine.oex T.se_BadLine.iC T.se_BadLine.tI GX_BadLine (hr.mono (by decide)) T.b_BadLine___init__ pass0 rfl T.m_BadLine (pa_cons (pv 0) pa_nil))) (pa_cons (pe_fldXK (K := K) (pe_oexV T.se_BadRule.oex T.se_BadRule.iC T.se_BadRule.tI GX_BadRule (hr.mono (by decide)) T.b_BadRule___init__ pass0 rfl T.m_BadRule (pa_cons (pv 0) pa_nil))) (pa_cons (pe_fldXK (K := K) (pe_oexV T.se_BadSign.oex T.se_BadSign.iC T.se_BadSign.tI GX_BadSign (hr.mono (by decide)) T.b_BadSign___init__ pass0 rfl T.m_BadSign (pa_cons (pv 0) pa_nil))) (pa_cons (pe_fldXK (K := K) (pe_oexV T.se_BadSpan.oex T.se_BadSpan.iC T.se_BadSpan.tI GX_BadSpan (hr.mono (by decide)) T.b_BadSpan___init__ pass0 rfl T.m_BadSpan (pa_cons (pv 0) (pa_cons pe_int pa_nil)))) (pa_cons (pe_fldXK (K := K) (pe_oexV T.se_BadSpan.oex T.se_BadSpan.iC T.se_BadSpan.tI GX_BadSpan (hr.mono (by decide)) T.b_BadSpan___init__ pass0 rfl T.m_BadSpan (pa_cons pe_int (pa_cons (pv 0) pa_nil)))) (pa_cons (pe_fldXK (K := K) (pe_oexV T.se_Impossible.oex T.se_Impossible.iC T.se_Impossible.tI GX_Impossible (hr.mono (by decide)) T.b_Impossible___init__ pass0 rfl T.m_Impossible (pa_cons (pv 0) pa_nil))) (pa_cons (pe_fldXK (K := K) (pe_oexV T.se_NoFault.oex T.se_NoFault.iC T.se_NoFault.tI GX_NoFault (hr.mono (by decide)) T.b_NoFault___init__ pass0 rfl T.m_NoFault (pa_cons (pv 0) pa_nil))) (pa_cons (pe_fldXK (K := K) (pe_oexV T.se_OutsideWindow.oex T.se_OutsideWindow.iC T.se_OutsideWindow.tI GX_OutsideWindow (hr.mono (by decide)) T.b_OutsideWindow___init__ pass0 rfl T.m_OutsideWindow (pa_cons (pv 0) pa_nil))) (pa_cons (pe_fldXK (K := K) (pe_oexV T.se_TooLong.oex T.se_TooLong.iC T.se_TooLong.tI GX_TooLong (hr.mono (by decide)) T.b_TooLong___init__ pass0 rfl T.m_TooLong (pa_cons (pv 0) pa_nil))) (pa_cons (pe_fldXK (K := K) (pe_oexV T.se_TooManySteps.oex T.se_TooManySteps.iC T.se_TooManySteps.tI GX_TooManySteps (hr.mono (by decide)) T.b_TooManySteps___init__ pass0 rfl T.m_TooManySteps (pa_cons (pv 0) pa_nil))) (pa_cons (pe_fldXK (K := K) (pe_oexV T.se_UnknownName.oex T.se_UnknownName.iC T.se_UnknownName.tI GX_UnknownName (hr.mono (by decide)) T.b_UnknownName___init__ pass0 rfl T.m_UnknownName (pa_cons (pv 0) pa_nil))) (pa_cons (pe_fldXK (K := K) (pe_oexV T.se_WrongText.oex T.se_WrongText.iC T.se_WrongText.tI GX_WrongText (hr.mono (by decide)) T.b_WrongText___init__ pass0 rfl T.m_WrongText (pa_cons (pv 0) pa_nil))) pa_nil))))))))))))))))
  (pss_cons (ps_ret (pe_cmpR (op_eqDK (K := K) hr.units) (pv 1) (pe_lc (own := [("_law_k", 2)]) (g := gName 2) (tt := tYes) (by rfl) sc__law_any_kept.nd (pi_range1 (by rfl) T.z_range (pa_cons pe_int pa_nil)) (blkOk_by (own := [("_law_k", 2)]) (N := n__law_any_kept) (sc := (defScope s__law_any_kept)) (by decide +kernel)) (fun _ _ _ _ _ => (pg_name (i := 2) sc__law_any_kept.nd rfl (Or.inl rfl))) (fun _ _ _ _ _ => pts_nil) (fun _ _ _ _ _ => (pv 0))) (nomark _)))
  pss_nil)), ?_⟩
  have e := Xt.refl sF
  let c : Cxt Bool := ⟨⟨False, E, (fun _ => 0)⟩, Q, (fz rB), F, H⟩
  have h : Po c (m__law_any_kept worth_1) := h
  unfold m__law_any_kept at h
  refine sq_set (c := c) (e_frz (e_lstP (r := qW) (al_cons (e_errF1 T.xf_BadCount T.no_BadCount_count (e_var (r := qW) (i := 0) h3 rfl)) (al_cons (e_errF1 T.xf_BadIndex T.no_BadIndex_index (e_var (r := qW) (i := 0) h3 rfl)) (al_cons (e_errF1 T.xf_BadLine T.no_BadLine_line (e_var (r := qW) (i := 0) h3 rfl)) (al_cons (e_errF1 T.xf_BadRule T.no_BadRule_number (e_var (r := qW) (i := 0) h3 rfl)) (al_cons (e_errF1 T.xf_BadSign T.no_BadSign_index (e_var (r := qW) (i := 0) h3 rfl)) (al_cons (e_errF2a (by decide) T.xf_BadSpan T.no_BadSpan_start (e_var (r := qW) (i := 0) h3 rfl) (e_ui (e_c (r := rNat) (x := 0) fun _ => rfl))) (al_cons (e_errF2b (by decide) T.xf_BadSpan T.no_BadSpan_end (e_ui (e_c (r := rNat) (x := 0) fun _ => rfl)) (e_var (r := qW) (i := 0) h3 rfl)) (al_cons (e_errF1 T.xf_Impossible T.no_Impossible_fragment (e_var (r := qW) (i := 0) h3 rfl)) (al_cons (e_errF1 T.xf_NoFault T.no_NoFault_index (e_var (r := qW) (i := 0) h3 rfl)) (al_cons (e_errF1 T.xf_OutsideWindow T.no_OutsideWindow_place (e_var (r := qW) (i := 0) h3 rfl)) (al_cons (e_errF1 T.xf_TooLong T.no_TooLong_length (e_var (r := qW) (i := 0) h3 rfl)) (al_cons (e_errF1 T.xf_TooManySteps T.no_TooManySteps_count (e_var (r := qW) (i := 0) h3 rfl)) (al_cons (e_errF1 T.xf_UnknownName T.no_UnknownName_name (e_var (r := qW) (i := 0) h3 rfl)) (al_cons (e_errF1 T.xf_WrongText T.no_WrongText_count (e_var (r := qW) (i := 0) h3 rfl)) al_nil)))))))))))))) (by simp))) e h (fun v => [some v2, some v, none]) (fun _ => rfl) fun told_8 v9 F4 H5 e6 e7 h10 h => ?_
  replace h3 := Mono.mono (r := qW) e6.ff h3
  exact sq_ret (c := c) (e_eqL (r := qW) (by decide) (e_lb (e_var (r := (qL qW)) (i := 1) h10 rfl)) (e_nlb (e_lcMap (e_lc (σ := [some v2, some v9, none]) (r := rNat) (r' := qW) (w' := c.w) (i_w (i_rng1 (e_c (r := rNat) (x := 14) fun _ => rfl))) (fun F15 x11 σ2 => ∃ v13, σ2 = [some v2, some v9, some v13] ∧ rNat F15 v13 x11) (@fun x v F4 H4 Q e h k => k [some v2, some v9, some v] rfl ⟨v, rfl, h⟩) (fun x11 σ2 F15 H16 e12 tg => by obtain ⟨v13, rfl, h14⟩ := tg; exact t_yes) (fun x11 σ2 F15 H16 e12 tg => by obtain ⟨v13, rfl, h14⟩ := tg; exact (((e_var (r := qW) (i := 0) h3 rfl)).up e12)))))) e7 h fun _ _ q => q
end SF
namespace SF
open PySem PySem.Spec PyProof.Rows L2
@[irreducible] noncomputable def m_law (script_1 : (List Int)) : M Bool := (((((w_cell script_1 0).bd fun t8 => M.ok t8).bd fun t9 => M.gd (0 < (1000000000 + 51)) (M.ok (t9 % ((1000000000 + 51) : Int)).toNat)).bd fun t10 => M.ok ((t10 : Nat) : Int)).bd fun t11 => M.ok (t11 - ((50 : Nat) : Int))).bd fun number_12 => (((((w_cell script_1 1).bd fun t19 => M.ok t19).bd fun t20 => M.gd (0 < 90) (M.ok (t20 % (90 : Int)).toNat)).bd fun t21 => M.ok ((t21 : Nat) : Int)).bd fun t22 => M.ok (t22 - ((5 : Nat) : Int))).bd fun other_23 => (M.ok [97, 98, 99, 100, 101, 102, 103, 104, 105, 106, 107, 108, 109, 110, 111, 112, 113, 114, 115, 116, 117, 118, 119, 120, 121, 122, 48, 49, 50, 51, 52, 53, 54, 55, 56, 57, 40, 41, 91, 93, 123, 125, 43, 45, 42, 47, 44, 46, 59, 58, 33, 63]).bd fun signs_30 => (((w_cell script_1 2).bd fun t37 => M.ok t37).bd fun t38 => M.gd (0 < 52) (M.ok (t38 % (52 : Int)).toNat)).bd fun at_39 => ((((((((w_cell script_1 3).bd fun t55 => M.ok t55).bd fun t56 => M.gd (0 < 9) (M.ok (t56 % (9 : Int)).toNat)).bd fun t57 => M.ok (at_39 + t57)).bd fun t58 => M.ok ((t58 : Nat) : Int)).bd fun t59 => M.ok (some t59)).bd fun t60 => M.ok (cutG signs_30 (some ((at_39 : Nat) : Int)) t60)).bd fun t64 => ((((w_cell script_1 4).bd fun t61 => M.ok t61).bd fun t62 => M.gd (0 < 4) (M.ok (t62 % (4 : Int)).toNat)).bd fun t63 => M.of [[], [60], [62], [83]][t63]?).bd fun t65 => M.cat t64 t65).bd fun text_66 => (M.ok [(⟨0, [("count", Fv.int number_12)]⟩ : Ex), (⟨8, [("index", Fv.int number_12)]⟩ : Ex), (⟨2, [("line", Fv.int number_12)]⟩ : Ex), (⟨1, [("number", Fv.int number_12)]⟩ : Ex), (⟨7, [("index", Fv.int number_12)]⟩ : Ex), (⟨9, [("end", Fv.int other_23), ("start", Fv.int number_12)]⟩ : Ex), (⟨10, [("fragment", Fv.txt text_66)]⟩ : Ex), (⟨11, [("index", Fv.int number_12)]⟩ : Ex), (⟨4, []⟩ : Ex), (⟨12, [("place", Fv.int number_12)]⟩ : Ex), (⟨14, []⟩ : Ex), (⟨5, [("length", Fv.int number_12)]⟩ : Ex), (⟨6, [("count", Fv.int number_12)]⟩ : Ex), (⟨3, [("name", Fv.txt text_66)]⟩ : Ex), (⟨13, [("count", Fv.int number_12)]⟩ : Ex)]).bd fun made_73 => (M.gd (15 ≤ sizeLine) (M.ok (List.range' 0 15))).bd fun z226 => M.fr (fun (s76 : Unit) x97 next99 brk104 => (M.of made_73[x97]?).bd fun e_109 => M.ite (M.ok ((!true) || (!true))) ((M.ok false)) (M.ite ((m__law_kinds e_109).bd fun t123 => ((M.gd (15 ≤ sizeLine) (M.ok (List.range' 0 15))).bd fun z => M.ok (z.map fun x117 => (decide (x117 = x97)))).bd fun t124 => M.gd (Deep.okd (qL rB) t123 = true ∧ Deep.okd (qL rB) t124 = true) (M.ok (!decide (t123 = t124)))) ((M.ok false)) (next99 ()))) (fun s76 => ((((M.of made_73[0]?).bd fun t134 => M.gd (t134.cls ∈ [0, 6, 13]) (xI t134 "count")).bd fun t156 => ((M.of made_73[1]?).bd fun t135 => M.gd (t135.cls ∈ [7, 8, 11]) (xI t135 "index")).bd fun t157 => ((M.of made_73[2]?).bd fun t136 => M.gd (t136.cls ∈ [2]) (xI t136 "line")).bd fun t158 => ((M.of made_73[3]?).bd fun t137 => M.gd (t137.cls ∈ [1]) (xI t137 "number")).bd fun t159 => ((M.of made_73[4]?).bd fun t138 => M.gd (t138.cls ∈ [7, 8, 11]) (xI t138 "index")).bd fun t160 => ((M.of made_73[5]?).bd fun t139 => M.gd (t139.cls ∈ [9]) (xI t139 "start")).bd fun t161 => ((M.of made_73[7]?).bd fun t140 => M.gd (t140.cls ∈ [7, 8, 11]) (xI t140 "index")).bd fun t162 => ((M.of made_73[9]?).bd fun t141 => M.gd (t141.cls ∈ [12]) (xI t141 "place")).bd fun t163 => ((M.of made_73[11]?).bd fun t142 => M.gd (t142.cls ∈ [5]) (xI t142 "length")).bd fun t164 => ((M.of made_73[12]?).bd fun t143 => M.gd (t143.cls ∈ [0, 6, 13]) (xI t143 "count")).bd fun t165 => ((M.of made_73[14]?).bd fun t144 => M.gd (t144.cls ∈ [0, 6, 13]) (xI t144 "count")).bd fun t166 => M.gd ([t156, t157, t158, t159, t160, t161, t162, t163, t164, t165, t166].length ≤ sizeLine) (M.ok [t156, t157, t158, t159, t160, t161, t162, t163, t164, t165, t166]))).bd fun told_167 => M.ite (M.ite (((M.lc (fun x170 => M.ok true) (fun x170 => (m__law_same (Sum.inl x170 : IT) (Sum.inl number_12 : IT))) told_167).bd fun t176 => M.ok (t176.all id)).bd fun t177 => M.ok (!t177)) (M.ok true) (((((M.of made_73[5]?).bd fun t178 => M.gd (t178.cls ∈ [9]) (xI t178 "end")).bd fun t179 => M.ok (Sum.inl t179 : IT)).bd fun t180 => m__law_same t180 (Sum.inl other_23 : IT)).bd fun t181 => M.ok (!t181))) ((M.ok false)) ((M.ok [(none : Wt), (some (Sum.inl [49, 50]) : Wt), (some (Sum.inr ((3 : Int), (1 : Int))) : Wt), (some (Sum.inl text_66) : Wt)]).bd fun z225 => M.fr (fun (s187 : Unit) x205 next207 brk212 => M.ite ((m__law_any_kept x205).bd fun t213 => M.ok (!t213)) ((M.ok false)) (next207 ())) (fun s187 => (M.ite ((((M.of made_73[6]?).bd fun t219 => M.gd (t219.cls ∈ [10]) (xT t219 "fragment")).bd fun t220 => M.ok (Sum.inr t220 : IT)).bd fun t221 => m__law_same t221 (Sum.inr text_66 : IT)) ((((M.of made_73[13]?).bd fun t222 => M.gd (t222.cls ∈ [3]) (xT t222 "name")).bd fun t223 => M.ok (Sum.inr t223 : IT)).bd fun t224 => m__law_same t224 (Sum.inr text_66 : IT)) (M.ok false))) z225 ())) z226 ()
def sp_m_law (a : Ad) (K : PySem.W.Frag) : Sp := Pm False (fun _ => 0) (rac (scr K) ran) (fz rB) (fun (x : (List Int) × Unit) => m_law x.1)
theorem ok_m_law {w : World} {K : PySem.W.Frag} {mg : Str → Option Value} {base : Heap} {a : Ad} (T : Txt K mg a) : FnOk PW w K mg base CX0 4 a.law a.d_law ["_law_script"] (sp_m_law a K) := by
  have G__law_any_kept := ok_m__law_any_kept (w := w) (base := base) T
  have G__law_cell := ok_w_cell (P := PW) (w := w) (base := base) T
  have G__law_kinds := ok_m__law_kinds (P := PW) (w := w) (base := base) T
  have G__law_same := ok_m__law_same (P := PW) (w := w) (base := base) T
  have GX_BadCount := se1 (CX := CX0) (w := w) (base := base) T.se_BadCount ns_BadCount rfl rfl (fun env => ⟨_, rfl⟩) ⟨_, rfl, rfl⟩ T.no_BadCount_count (by decide) (by decide) (fun env => rfl)
  have GX_BadIndex := se1 (CX := CX0) (w := w) (base := base) T.se_BadIndex ns_BadIndex rfl rfl (fun env => ⟨_, rfl⟩) ⟨_, rfl, rfl⟩ T.no_BadIndex_index (by decide) (by decide) (fun env => rfl)
  have GX_BadLine := se1 (CX := CX0) (w := w) (base := base) T.se_BadLine ns_BadLine rfl rfl (fun env => ⟨_, rfl⟩) ⟨_, rfl, rfl⟩ T.no_BadLine_line (by decide) (by decide) (fun env => rfl)
  have GX_BadRule := se1 (CX := CX0) (w := w) (base := base) T.se_BadRule ns_BadRule rfl rfl (fun env => ⟨_, rfl⟩) ⟨_, rfl, rfl⟩ T.no_BadRule_number (by decide) (by decide) (fun env => rfl)
  have GX_BadSign := se1 (CX := CX0) (w := w) (base := base) T.se_BadSign ns_BadSign rfl rfl (fun env => ⟨_, rfl⟩) ⟨_, rfl, rfl⟩ T.no_BadSign_index (by decide) (by decide) (fun env => rfl)
  have GX_BadSpan := se2 (CX := CX0) (w := w) (base := base) T.se_BadSpan ns_BadSpan rfl rfl (fun env => ⟨_, rfl⟩) ⟨_, rfl, rfl⟩ T.no_BadSpan_start T.no_BadSpan_end (by decide) (by decide) (fun env => rfl) (by decide) (by decide) (fun env => rfl)
  have GX_Impossible := se1 (CX := CX0) (w := w) (base := base) T.se_Impossible ns_Impossible rfl rfl (fun env => ⟨_, rfl⟩) ⟨_, rfl, rfl⟩ T.no_Impossible_fragment (by decide) (by decide) (fun env => rfl)
  have GX_NoFault := se1 (CX := CX0) (w := w) (base := base) T.se_NoFault ns_NoFault rfl rfl (fun env => ⟨_, rfl⟩) ⟨_, rfl, rfl⟩ T.no_NoFault_index (by decide) (by decide) (fun env => rfl)
  have GX_NoValidText := se0 (CX := CX0) (w := w) (base := base) T.se_NoValidText ns_NoValidText rfl rfl (fun env => ⟨_, rfl⟩) ⟨_, rfl, rfl⟩
  have GX_OutsideWindow := se1 (CX := CX0) (w := w) (base := base) T.se_OutsideWindow ns_OutsideWindow rfl rfl (fun env => ⟨_, rfl⟩) ⟨_, rfl, rfl⟩ T.no_OutsideWindow_place (by decide) (by decide) (fun env => rfl)
  have GX_RowEnded := se0 (CX := CX0) (w := w) (base := base) T.se_RowEnded ns_RowEnded rfl rfl (fun env => ⟨_, rfl⟩) ⟨_, rfl, rfl⟩
  have GX_TooLong := se1 (CX := CX0) (w := w) (base := base) T.se_TooLong ns_TooLong rfl rfl (fun env => ⟨_, rfl⟩) ⟨_, rfl, rfl⟩ T.no_TooLong_length (by decide) (by decide) (fun env => rfl)
  have GX_TooManySteps := se1 (CX := CX0) (w := w) (base := base) T.se_TooManySteps ns_TooManySteps rfl rfl (fun env => ⟨_, rfl⟩) ⟨_, rfl, rfl⟩ T.no_TooManySteps_count (by decide) (by decide) (fun env => rfl)
  have GX_UnknownName := se1 (CX := CX0) (w := w) (base := base) T.se_UnknownName ns_UnknownName rfl rfl (fun env => ⟨_, rfl⟩) ⟨_, rfl, rfl⟩ T.no_UnknownName_name (by decide) (by decide) (fun env => rfl)
  have GX_WrongText := se1 (CX := CX0) (w := w) (base := base) T.se_WrongText ns_WrongText rfl rfl (fun env => ⟨_, rfl⟩) ⟨_, rfl, rfl⟩ T.no_WrongText_count (by decide) (by decide) (fun env => rfl)
  refine T.f_law.ok sc_law (fun vs H Q E h => ?_) (fun cdv A outer s H vs Q E hr h => ?_)
  · obtain ⟨F, x, _, hR, _⟩ := h
    obtain ⟨_, _, rfl, _, rfl⟩ := hR
    rfl
  obtain ⟨F, ⟨script_1, u0⟩, sF, hR, h⟩ := h
  obtain ⟨v2, _, rfl, h3, rfl⟩ := hR
  refine ⟨_, (pss_cons (ps_set (i := 1) sc_law.nd rfl (Or.inr rfl) (pe_op op_sub (pe_op op_mod (pe_callTy call_int1 (by rfl) T.z_int (by decide +kernel) (pa_cons (pe_call G__law_cell (hr.mono (by decide)) (by rfl) T.m__law_cell T.f__law_cell.kp T.b__law_cell .nil pass0 (pa_cons (pv 0) (pa_cons pe_int pa_nil))) pa_nil)) (pe_op op_add (pe_op op_pow pe_int pe_int) pe_int)) pe_int))
  (pss_cons (ps_set (i := 2) sc_law.nd rfl (Or.inl rfl) (pe_op op_sub (pe_op op_mod (pe_callTy call_int1 (by rfl) T.z_int (by decide +kernel) (pa_cons (pe_call G__law_cell (hr.mono (by decide)) (by rfl) T.m__law_cell T.f__law_cell.kp T.b__law_cell .nil pass0 (pa_cons (pv 0) (pa_cons pe_int pa_nil))) pa_nil)) pe_int) pe_int))
  (pss_cons (ps_set (i := 3) sc_law.nd rfl (Or.inl rfl) pe_str)
  (pss_cons (ps_set (i := 4) sc_law.nd rfl (Or.inl rfl) (pe_op op_mod (pe_callTy call_int1 (by rfl) T.z_int (by decide +kernel) (pa_cons (pe_call G__law_cell (hr.mono (by decide)) (by rfl) T.m__law_cell T.f__law_cell.kp T.b__law_cell .nil pass0 (pa_cons (pv 0) (pa_cons pe_int pa_nil))) pa_nil)) pe_int))
  (pss_cons (ps_set (i := 5) sc_law.nd rfl (Or.inl rfl) (pe_op op_add_str (pe_slice sl_str (pv 3) (po_some (pv 4)) (po_some (pe_op op_add (pv 4) (pe_op op_mod (pe_callTy call_int1 (by rfl) T.z_int (by decide +kernel) (pa_cons (pe_call G__law_cell (hr.mono (by decide)) (by rfl) T.m__law_cell T.f__law_cell.kp T.b__law_cell .nil pass0 (pa_cons (pv 0) (pa_cons pe_int pa_nil))) pa_nil)) pe_int)))) (pe_ix (ix_listK (K := K)) (pe_lst (pa_cons pe_str (pa_cons pe_str (pa_cons pe_str (pa_cons pe_str pa_nil))))) (pe_op op_mod (pe_callTy call_int1 (by rfl) T.z_int (by decide +kernel) (pa_cons (pe_call G__law_cell (hr.mono (by decide)) (by rfl) T.m__law_cell T.f__law_cell.kp T.b__law_cell .nil pass0 (pa_cons (pv 0) (pa_cons pe_int pa_nil))) pa_nil)) pe_int) (fun _ _ => rfl))))
  (pss_cons (ps_set (i := 6) sc_law.nd rfl (Or.inl rfl) (pe_lst (pa_cons (pe_oexV T.se_BadCount.oex T.se_BadCount.iC T.se_BadCount.tI GX_BadCount (hr.mono (by decide)) T.b_BadCount___init__ pass0 rfl T.m_BadCount (pa_cons (pv 1) pa_nil)) (pa_cons (pe_oexV T.se_BadIndex.oex T.se_BadIndex.iC T.se_BadIndex.tI GX_BadIndex (hr.mono (by decide)) T.b_BadIndex___init__ pass0 rfl T.m_BadIndex (pa_cons (pv 1) pa_nil)) (pa_cons (pe_oexV T.se_BadLine.oex T.se_BadLine.iC T.se_BadLine.tI GX_BadLine (hr.mono (by decide)) T.b_BadLine___init__ pass0 rfl T.m_BadLine (pa_cons (pv 1) pa_nil)) (pa_cons (pe_oexV T.se_BadRule.oex T.se_BadRule.iC T.se_BadRule.tI GX_BadRule (hr.mono (by decide)) T.b_BadRule___init__ pass0 rfl T.m_BadRule (pa_cons (pv 1) pa_nil)) (pa_cons (pe_oexV T.se_BadSign.oex T.se_BadSign.iC T.se_BadSign.tI GX_BadSign (hr.mono (by decide)) T.b_BadSign___init__ pass0 rfl T.m_BadSign (pa_cons (pv 1) pa_nil)) (pa_cons (pe_oexV T.se_BadSpan.oex T.se_BadSpan.iC T.se_BadSpan.tI GX_BadSpan (hr.mono (by decide)) T.b_BadSpan___init__ pass0 rfl T.m_BadSpan (pa_cons (pv 1) (pa_cons (pv 2) pa_nil))) (pa_cons (pe_oexV T.se_Impossible.oex T.se_Impossible.iC T.se_Impossible.tI GX_Impossible (hr.mono (by decide)) T.b_Impossible___init__ pass0 rfl T.m_Impossible (pa_cons (pv 5) pa_nil)) (pa_cons (pe_oexV T.se_NoFault.oex T.se_NoFault.iC T.se_NoFault.tI GX_NoFault (hr.mono (by decide)) T.b_NoFault___init__ pass0 rfl T.m_NoFault (pa_cons (pv 1) pa_nil)) (pa_cons (pe_oexZ T.se_NoValidText.oex T.se_NoValidText.iC T.se_NoValidText.tI GX_NoValidText (hr.mono (by decide)) T.b_NoValidText___init__ pass0 rfl T.m_NoValidText) (pa_cons (pe_oexV T.se_OutsideWindow.oex T.se_OutsideWindow.iC T.se_OutsideWindow.tI GX_OutsideWindow (hr.mono (by decide)) T.b_OutsideWindow___init__ pass0 rfl T.m_OutsideWindow (pa_cons (pv 1) pa_nil)) (pa_cons (pe_oexZ T.se_RowEnded.oex T.se_RowEnded.iC T.se_RowEnded.tI GX_RowEnded (hr.mono (by decide)) T.b_RowEnded___init__ pass0 rfl T.m_RowEnded) (pa_cons (pe_oexV T.se_TooLong.oex T.se_TooLong.iC T.se_TooLong.tI GX_TooLong (hr.mono (by decide)) T.b_TooLong___init__ pass0 rfl T.m_TooLong (pa_cons (pv 1) pa_nil)) (pa_cons (pe_oexV T.se_TooManySteps.oex T.se_TooManySteps.iC T.se_TooManySteps.tI GX_TooManySteps (hr.mono (by decide)) T.b_TooManySteps___init__ pass0 rfl T.m_TooManySteps (pa_cons (pv 1) pa_nil)) (pa_cons (pe_oexV T.se_UnknownName.oex T.se_UnknownName.iC T.se_UnknownName.tI GX_UnknownName (hr.mono (by decide)) T.b_UnknownName___init__ pass0 rfl T.m_UnknownName (pa_cons (pv 5) pa_nil)) (pa_cons (pe_oexV T.se_WrongText.oex T.se_WrongText.iC T.se_WrongText.tI GX_WrongText (hr.mono (by decide)) T.b_WrongText___init__ pass0 rfl T.m_WrongText (pa_cons (pv 1) pa_nil)) pa_nil)))))))))))))))))
  (pss_cons (ps_for PassesOwn.never rfl (pi_range1 (by rfl) T.z_range (pa_cons pe_int pa_nil)) (pg_name (i := 7) sc_law.nd rfl (Or.inr rfl))
    (pss_cons (ps_set (i := 8) sc_law.nd rfl (Or.inl rfl) (pe_ix (ix_listK (K := K)) (pv 6) (pv 7) (fun _ _ => rfl)))
  (pss_cons (ps_if (PW.pt (pw_or (pt_not (pt_val (pe_callB (call_isXK (K := K)) (by rfl) T.z_isinstance (by decide +kernel) (pa_cons (pv 8) (pa_cons (pe_glob (v := .ref a.SureError) (by rfl) T.m_SureError rfl) pa_nil))))) (pw_or1 (pt_not (pt_val (pe_callB (call_isXK (K := K)) (by rfl) T.z_isinstance (by decide +kernel) (pa_cons (pv 8) (pa_cons (pe_bltn (v := .ty "ValueError") (u := .type "ValueError") (by rfl) T.z_ValueError (by decide +kernel) rfl) pa_nil))))))))
    (pss_cons (ps_ret pe_bl)
  pss_nil)
    pss_nil)
  (pss_cons (ps_if (pt_cmpR (op_neDK (K := K) hr.units) (pe_call G__law_kinds (hr.mono (by decide)) (by rfl) T.m__law_kinds T.f__law_kinds.kp T.b__law_kinds .nil pass0 (pa_cons (pv 8) pa_nil)) (pe_lc (own := [("_law_j", 11)]) (g := gName 11) (tt := tYes) (by rfl) sc_law.nd (pi_range1 (by rfl) T.z_range (pa_cons pe_int pa_nil)) (blkOk_by (own := [("_law_j", 11)]) (N := n_law) (sc := (defScope s_law)) (by decide +kernel)) (fun _ _ _ _ _ => (pg_name (i := 11) sc_law.nd rfl (Or.inl rfl))) (fun _ _ _ _ _ => pts_nil) (fun _ _ _ _ _ => (pe_cmpR op_eq (pv 11) (pv 7) (nomark _)))) (nomark _))
    (pss_cons (ps_ret pe_bl)
  pss_nil)
    pss_nil)
  pss_nil))))
  (pss_cons (ps_set (i := 9) sc_law.nd rfl (Or.inl rfl) (pe_lst (pa_cons (pe_fldXK (K := K) (pe_ix (ix_listK (K := K)) (pv 6) pe_int (fun _ _ => rfl))) (pa_cons (pe_fldXK (K := K) (pe_ix (ix_listK (K := K)) (pv 6) pe_int (fun _ _ => rfl))) (pa_cons (pe_fldXK (K := K) (pe_ix (ix_listK (K := K)) (pv 6) pe_int (fun _ _ => rfl))) (pa_cons (pe_fldXK (K := K) (pe_ix (ix_listK (K := K)) (pv 6) pe_int (fun _ _ => rfl))) (pa_cons (pe_fldXK (K := K) (pe_ix (ix_listK (K := K)) (pv 6) pe_int (fun _ _ => rfl))) (pa_cons (pe_fldXK (K := K) (pe_ix (ix_listK (K := K)) (pv 6) pe_int (fun _ _ => rfl))) (pa_cons (pe_fldXK (K := K) (pe_ix (ix_listK (K := K)) (pv 6) pe_int (fun _ _ => rfl))) (pa_cons (pe_fldXK (K := K) (pe_ix (ix_listK (K := K)) (pv 6) pe_int (fun _ _ => rfl))) (pa_cons (pe_fldXK (K := K) (pe_ix (ix_listK (K := K)) (pv 6) pe_int (fun _ _ => rfl))) (pa_cons (pe_fldXK (K := K) (pe_ix (ix_listK (K := K)) (pv 6) pe_int (fun _ _ => rfl))) (pa_cons (pe_fldXK (K := K) (pe_ix (ix_listK (K := K)) (pv 6) pe_int (fun _ _ => rfl))) pa_nil)))))))))))))
  (pss_cons (ps_if (PW.pt (pw_or (pt_not (pt_val (pe_callB (cr_allK (K := K) (by rfl)) (by rfl) T.z_all (by decide +kernel) (pa_cons (pe_lc (own := [("_law_x", 12)]) (g := gName 12) (tt := tYes) (by rfl) sc_law.nd (pi_listK (K := K) (pv 9)) (blkOk_by (own := [("_law_x", 12)]) (N := n_law) (sc := (defScope s_law)) (by decide +kernel)) (fun _ _ _ _ _ => (pg_name (i := 12) sc_law.nd rfl (Or.inl rfl))) (fun _ _ _ _ _ => pts_nil) (fun _ _ _ _ _ => (pe_call G__law_same (hr.mono (by decide)) (by rfl) T.m__law_same T.f__law_same.kp T.b__law_same .nil pass0 (pa_cons (pv 12) (pa_cons (pv 1) pa_nil))))) pa_nil)))) (pw_or1 (pt_not (pt_val (pe_call G__law_same (hr.mono (by decide)) (by rfl) T.m__law_same T.f__law_same.kp T.b__law_same .nil pass0 (pa_cons (pe_fldXK (K := K) (pe_ix (ix_listK (K := K)) (pv 6) pe_int (fun _ _ => rfl))) (pa_cons (pv 2) pa_nil))))))))
    (pss_cons (ps_ret pe_bl)
  pss_nil)
    pss_nil)
  (pss_cons (ps_for PassesOwn.never rfl (pi_listK (K := K) (pe_lst (pa_cons pe_non (pa_cons pe_str (pa_cons (pe_tup (pa_cons pe_int (pa_cons pe_int pa_nil))) (pa_cons (pv 5) pa_nil)))))) (pg_name (i := 10) sc_law.nd rfl (Or.inl rfl))
    (pss_cons (ps_if (pt_not (pt_val (pe_call G__law_any_kept (hr.mono (by decide)) (by rfl) T.m__law_any_kept T.f__law_any_kept.kp T.b__law_any_kept .nil pass0 (pa_cons (pv 10) pa_nil))))
    (pss_cons (ps_ret pe_bl)
  pss_nil)
    pss_nil)
  pss_nil))
  (pss_cons (ps_ret (pe_and (pe_call G__law_same (hr.mono (by decide)) (by rfl) T.m__law_same T.f__law_same.kp T.b__law_same .nil pass0 (pa_cons (pe_fldXK (K := K) (pe_ix (ix_listK (K := K)) (pv 6) pe_int (fun _ _ => rfl))) (pa_cons (pv 5) pa_nil))) (pe_one (pe_call G__law_same (hr.mono (by decide)) (by rfl) T.m__law_same T.f__law_same.kp T.b__law_same .nil pass0 (pa_cons (pe_fldXK (K := K) (pe_ix (ix_listK (K := K)) (pv 6) pe_int (fun _ _ => rfl))) (pa_cons (pv 5) pa_nil))))))
  pss_nil))))))))))), ?_⟩
  have e := Xt.refl sF
  let c : Cxt Bool := ⟨⟨False, E, (fun _ => 0)⟩, Q, (fz rB), F, H⟩
  have h : Po c (m_law script_1) := h
  unfold m_law at h
  refine sq_set (c := c) (e_sub (e_ui (e_modI (e_int (e_call (f := (fun (x : (List Int) × Nat × Unit) => w_cell x.1 x.2.1)) (fun h => h) (a_cons (e_bor (R := (scr K)) (i := 0) (fun _ => Fl.fl (Up.up e h3)) rfl) (a_cons (e_c (r := rNat) (x := 0) fun _ => rfl) a_nil)))) (e_addU (e_powC (i := 10) (j := 9) (k := 1000000000) (by decide) (by decide) (by decide)) (e_c (r := rNat) (x := 51) fun _ => rfl)))) (e_ui (e_c (r := rNat) (x := 50) fun _ => rfl))) e h (fun v => [some v2, some v, none, none, none, none, none, none, none, none, none, none, none]) (fun _ => rfl) fun number_12 v13 F4 H5 e6 e7 h14 h => ?_
  refine sq_set (c := c) (e_sub (e_ui (e_modI (e_int (e_call (f := (fun (x : (List Int) × Nat × Unit) => w_cell x.1 x.2.1)) (fun h => h) (a_cons (e_bor (R := (scr K)) (i := 0) (fun _ => Fl.fl (Up.up e7 h3)) rfl) (a_cons (e_c (r := rNat) (x := 1) fun _ => rfl) a_nil)))) (e_c (r := rNat) (x := 90) fun _ => rfl))) (e_ui (e_c (r := rNat) (x := 5) fun _ => rfl))) e7 h (fun v => [some v2, some v13, some v, none, none, none, none, none, none, none, none, none, none]) (fun _ => rfl) fun other_23 v24 F15 H16 e17 e18 h25 h => ?_
  replace h14 := Mono.mono (r := rI) e17.ff h14
  refine sq_set (c := c) (e_str (x := [97, 98, 99, 100, 101, 102, 103, 104, 105, 106, 107, 108, 109, 110, 111, 112, 113, 114, 115, 116, 117, 118, 119, 120, 121, 122, 48, 49, 50, 51, 52, 53, 54, 55, 56, 57, 40, 41, 91, 93, 123, 125, 43, 45, 42, 47, 44, 46, 59, 58, 33, 63]) (by decide +kernel) (by decide +kernel)) e18 h (fun v => [some v2, some v13, some v24, some v, none, none, none, none, none, none, none, none, none]) (fun _ => rfl) fun signs_30 v31 F26 H27 e28 e29 h32 h => ?_
  replace h14 := Mono.mono (r := rI) e28.ff h14
  replace h25 := Mono.mono (r := rI) e28.ff h25
  refine sq_set (c := c) (e_modI (e_int (e_call (f := (fun (x : (List Int) × Nat × Unit) => w_cell x.1 x.2.1)) (fun h => h) (a_cons (e_bor (R := (scr K)) (i := 0) (fun _ => Fl.fl (Up.up e29 h3)) rfl) (a_cons (e_c (r := rNat) (x := 2) fun _ => rfl) a_nil)))) (e_c (r := rNat) (x := 52) fun _ => rfl)) e29 h (fun v => [some v2, some v13, some v24, some v31, some v, none, none, none, none, none, none, none, none]) (fun _ => rfl) fun at_39 v40 F33 H34 e35 e36 h41 h => ?_
  replace h14 := Mono.mono (r := rI) e35.ff h14
  replace h25 := Mono.mono (r := rI) e35.ff h25
  replace h32 := Mono.mono (r := qS) e35.ff h32
  refine sq_set (c := c) (e_catS (e_slS (e_var (r := qS) (i := 3) h32 rfl) (o_some (e_ui (e_var (r := rNat) (i := 4) h41 rfl))) (o_some (e_ui (e_addU (e_var (r := rNat) (i := 4) h41 rfl) (e_modI (e_int (e_call (f := (fun (x : (List Int) × Nat × Unit) => w_cell x.1 x.2.1)) (fun h => h) (a_cons (e_bor (R := (scr K)) (i := 0) (fun _ => Fl.fl (Up.up e36 h3)) rfl) (a_cons (e_c (r := rNat) (x := 3) fun _ => rfl) a_nil)))) (e_c (r := rNat) (x := 9) fun _ => rfl)))))) (e_ixU (e_nlb (e_lstP (r := qS) (al_cons (e_str (x := []) (by decide +kernel) (by decide +kernel)) (al_cons (e_str (x := [60]) (by decide +kernel) (by decide +kernel)) (al_cons (e_str (x := [62]) (by decide +kernel) (by decide +kernel)) (al_cons (e_str (x := [83]) (by decide +kernel) (by decide +kernel)) al_nil)))) (by simp))) (e_modI (e_int (e_call (f := (fun (x : (List Int) × Nat × Unit) => w_cell x.1 x.2.1)) (fun h => h) (a_cons (e_bor (R := (scr K)) (i := 0) (fun _ => Fl.fl (Up.up e36 h3)) rfl) (a_cons (e_c (r := rNat) (x := 4) fun _ => rfl) a_nil)))) (e_c (r := rNat) (x := 4) fun _ => rfl)))) e36 h (fun v => [some v2, some v13, some v24, some v31, some v40, some v, none, none, none, none, none, none, none]) (fun _ => rfl) fun text_66 v67 F42 H43 e44 e45 h68 h => ?_
  replace h14 := Mono.mono (r := rI) e44.ff h14
  replace h25 := Mono.mono (r := rI) e44.ff h25
  refine sq_set (c := c) (e_frz (e_lstP (r := (rEx (clA a))) (al_cons (e_mkE1 (i := 0) (cl := clA a) (enc := Fv.int) rfl (fun _ _ _ h => h) (e_var (r := rI) (i := 1) h14 rfl)) (al_cons (e_mkE1 (i := 8) (cl := clA a) (enc := Fv.int) rfl (fun _ _ _ h => h) (e_var (r := rI) (i := 1) h14 rfl)) (al_cons (e_mkE1 (i := 2) (cl := clA a) (enc := Fv.int) rfl (fun _ _ _ h => h) (e_var (r := rI) (i := 1) h14 rfl)) (al_cons (e_mkE1 (i := 1) (cl := clA a) (enc := Fv.int) rfl (fun _ _ _ h => h) (e_var (r := rI) (i := 1) h14 rfl)) (al_cons (e_mkE1 (i := 7) (cl := clA a) (enc := Fv.int) rfl (fun _ _ _ h => h) (e_var (r := rI) (i := 1) h14 rfl)) (al_cons (e_mkE2 (i := 9) (cl := clA a) (r := rI) (s := rI) (enc := Fv.int) (enc' := Fv.int) rfl (fun _ _ _ h => h) (fun _ _ _ h => h) (e_var (r := rI) (i := 1) h14 rfl) (e_var (r := rI) (i := 2) h25 rfl)) (al_cons (e_mkE1 (i := 10) (cl := clA a) (enc := Fv.txt) rfl (fun _ _ _ h => h.1) (e_var (r := qS) (i := 5) h68 rfl)) (al_cons (e_mkE1 (i := 11) (cl := clA a) (enc := Fv.int) rfl (fun _ _ _ h => h) (e_var (r := rI) (i := 1) h14 rfl)) (al_cons (e_mkE0 (i := 4) (cl := clA a) rfl (fun a H Q E h q => ⟨a, rfl, h, q⟩)) (al_cons (e_mkE1 (i := 12) (cl := clA a) (enc := Fv.int) rfl (fun _ _ _ h => h) (e_var (r := rI) (i := 1) h14 rfl)) (al_cons (e_mkE0 (i := 14) (cl := clA a) rfl (fun a H Q E h q => ⟨a, rfl, h, q⟩)) (al_cons (e_mkE1 (i := 5) (cl := clA a) (enc := Fv.int) rfl (fun _ _ _ h => h) (e_var (r := rI) (i := 1) h14 rfl)) (al_cons (e_mkE1 (i := 6) (cl := clA a) (enc := Fv.int) rfl (fun _ _ _ h => h) (e_var (r := rI) (i := 1) h14 rfl)) (al_cons (e_mkE1 (i := 3) (cl := clA a) (enc := Fv.txt) rfl (fun _ _ _ h => h.1) (e_var (r := qS) (i := 5) h68 rfl)) (al_cons (e_mkE1 (i := 13) (cl := clA a) (enc := Fv.int) rfl (fun _ _ _ h => h) (e_var (r := rI) (i := 1) h14 rfl)) al_nil))))))))))))))) (by simp))) e45 h (fun v => [some v2, some v13, some v24, some v31, some v40, some v67, some v, none, none, none, none, none, none]) (fun _ => rfl) fun made_73 v74 F69 H70 e71 e72 h75 h => ?_
  replace h14 := Mono.mono (r := rI) e71.ff h14
  replace h25 := Mono.mono (r := rI) e71.ff h25
  replace h68 := Mono.mono (r := qS) e71.ff h68
  refine sq_for (c := c) (i_rng1 (e_c (r := rNat) (x := 15) fun _ => rfl)) e72 h (fun F83 (s76 : Unit) F84 σ' H85 => ∃ (y77 : Option V) (y78 : Option V), σ' = [some v2, some v13, some v24, some v31, some v40, some v67, some v74, y77, y78, none, none, none, none] ∧ Xt F H F84 H85 ∧ Same F83 F84 ∧ (qL (rEx (clA a))) F84 v74 made_73 ∧ rI F84 v13 number_12 ∧ rI F84 v24 other_23 ∧ qS F84 v67 text_66) (fun _ _ _ _ _ hN => ?_) (fun F88 H89 e90 e91 => ?_) (fun nx92 bk93 F83 s76 F84 σ' H85 F94 H95 x97 v98 next99 hN e96 hx100 hn101 hb102 h => ?_) (fun F83 s76 F84 σ' H85 hN h => ?_)
  · obtain ⟨y77, y78, _, e86, sf87, _, _, _, _⟩ := hN; exact ⟨sf87, e86.fh⟩
  ·
    replace h14 := Mono.mono (r := rI) e90.ff h14
    replace h25 := Mono.mono (r := rI) e90.ff h25
    replace h68 := Mono.mono (r := qS) e90.ff h68
    replace h75 := Mono.mono (r := (qL (rEx (clA a)))) e90.ff h75
    exact ⟨_, _, rfl, e91, Same.refl _, h75, h14, h25, h68⟩
  ·
    obtain ⟨y77, y78, rfl, e86, sf87, h79, h80, h81, h82⟩ := hN
    replace h79 := Mono.mono (r := (qL (rEx (clA a)))) e96.ff h79
    replace h80 := Mono.mono (r := rI) e96.ff h80
    replace h81 := Mono.mono (r := rI) e96.ff h81
    replace h82 := Mono.mono (r := qS) e96.ff h82
    have e103 := e86.trans e96
    replace sf87 := sf87.trans e96.ff
    refine g1 [some v2, some v13, some v24, some v31, some v40, some v67, some v74, some v98, y78, none, none, none, none] rfl ?_
    refine sq_set (c := c) (e_ixU (e_lb (e_var (r := (qL (rEx (clA a)))) (i := 6) h79 rfl)) (e_var (r := rNat) (i := 7) hx100 rfl)) e103 h (fun v => [some v2, some v13, some v24, some v31, some v40, some v67, some v74, some v98, some v, none, none, none, none]) (fun _ => rfl) fun e_109 v110 F105 H106 e107 e108 h111 h => ?_
    replace sf87 := sf87.trans e107.ff
    replace h79 := Mono.mono (r := (qL (rEx (clA a)))) e107.ff h79
    replace h80 := Mono.mono (r := rI) e107.ff h80
    replace h81 := Mono.mono (r := rI) e107.ff h81
    replace h82 := Mono.mono (r := qS) e107.ff h82
    replace hx100 := Mono.mono (r := rNat) e107.ff hx100
    refine sq_if (c := c) (t_orP (t_not (t_val (e_isX (K := K) (c := .ref a.SureError) (b := fun _ => true) (xc_all T) (fun _ h => h) T.kx_SureError (e_var (r := (rEx (clA a))) (i := 8) h111 rfl)))) (t_not (t_val (e_isX (K := K) (c := .ty "ValueError") (b := fun _ => true) (xc_all T) (fun _ h => h) T.kx_ValueError (e_var (r := (rEx (clA a))) (i := 8) h111 rfl))))) e108 h (fun F112 H113 e114 h => ?_) (fun F112 H113 e114 h => ?_)
    ·
      replace sf87 := sf87.trans e114.ff
      have e115 := e108.trans e114
      exact sq_ret (c := c) (e_c (r := rB) (x := false) fun _ => rfl) e115 h fun _ _ q => q
    ·
      replace sf87 := sf87.trans e114.ff
      replace h79 := Mono.mono (r := (qL (rEx (clA a)))) e114.ff h79
      replace h80 := Mono.mono (r := rI) e114.ff h80
      replace h81 := Mono.mono (r := rI) e114.ff h81
      replace h82 := Mono.mono (r := qS) e114.ff h82
      replace hx100 := Mono.mono (r := rNat) e114.ff hx100
      replace h111 := Mono.mono (r := (rEx (clA a))) e114.ff h111
      have e116 := e108.trans e114
      refine sq_if (c := c) (t_test (e_neL (r := rB) (by decide) (e_lb (e_call (f := (fun (x : Ex × Unit) => m__law_kinds x.1)) (fun h => h) (a_cons (e_var (r := (rEx (clA a))) (i := 8) h111 rfl) a_nil))) (e_nlb (e_lcMap (e_lc (σ := [some v2, some v13, some v24, some v31, some v40, some v67, some v74, some v98, some v110, none, none, none, none]) (r := rNat) (r' := rB) (w' := c.w) (i_w (i_rng1 (e_c (r := rNat) (x := 15) fun _ => rfl))) (fun F121 x117 σ2 => ∃ v119, σ2 = [some v2, some v13, some v24, some v31, some v40, some v67, some v74, some v98, some v110, none, none, some v119, none] ∧ rNat F121 v119 x117) (@fun x v F4 H4 Q e h k => k [some v2, some v13, some v24, some v31, some v40, some v67, some v74, some v98, some v110, none, none, some v, none] rfl ⟨v, rfl, h⟩) (fun x117 σ2 F121 H122 e118 tg => by obtain ⟨v119, rfl, h120⟩ := tg; exact t_yes) (fun x117 σ2 F121 H122 e118 tg => by obtain ⟨v119, rfl, h120⟩ := tg; exact (e_eq (e_var (r := rNat) (i := 11) h120 rfl) (((e_var (r := rNat) (i := 7) hx100 rfl)).up e118)))))))) e116 h (fun F125 H126 e127 h => ?_) (fun F125 H126 e127 h => ?_)
      ·
        replace sf87 := sf87.trans e127.ff
        have e128 := e116.trans e127
        exact sq_ret (c := c) (e_c (r := rB) (x := false) fun _ => rfl) e128 h fun _ _ q => q
      ·
        replace sf87 := sf87.trans e127.ff
        replace h79 := Mono.mono (r := (qL (rEx (clA a)))) e127.ff h79
        replace h80 := Mono.mono (r := rI) e127.ff h80
        replace h81 := Mono.mono (r := rI) e127.ff h81
        replace h82 := Mono.mono (r := qS) e127.ff h82
        have e129 := e116.trans e127
        exact hn101 () _ _ _ ⟨_, _, rfl, e129, sf87, h79, h80, h81, h82⟩ h
  ·
    obtain ⟨y77, y78, rfl, e86, sf87, h79, h80, h81, h82⟩ := hN
    refine sq_set (c := c) (e_frz (e_lst (r := rI) (al_cons (e_fldX (K := K) [0, 6, 13] (xf_all T) (fun n h => by simp only [List.mem_cons, List.not_mem_nil, or_false] at h; rcases h with rfl | rfl | rfl <;> first | exact T.no_BadCount_count | exact T.no_TooManySteps_count | exact T.no_WrongText_count) (e_ixU (e_lb (e_var (r := (qL (rEx (clA a)))) (i := 6) h79 rfl)) (e_c (r := rNat) (x := 0) fun _ => rfl))) (al_cons (e_fldX (K := K) [7, 8, 11] (xf_all T) (fun n h => by simp only [List.mem_cons, List.not_mem_nil, or_false] at h; rcases h with rfl | rfl | rfl <;> first | exact T.no_BadSign_index | exact T.no_BadIndex_index | exact T.no_NoFault_index) (e_ixU (e_lb (e_var (r := (qL (rEx (clA a)))) (i := 6) h79 rfl)) (e_c (r := rNat) (x := 1) fun _ => rfl))) (al_cons (e_fldX (K := K) [2] (xf_all T) (fun n h => by simp only [List.mem_cons, List.not_mem_nil, or_false] at h; subst h; exact T.no_BadLine_line) (e_ixU (e_lb (e_var (r := (qL (rEx (clA a)))) (i := 6) h79 rfl)) (e_c (r := rNat) (x := 2) fun _ => rfl))) (al_cons (e_fldX (K := K) [1] (xf_all T) (fun n h => by simp only [List.mem_cons, List.not_mem_nil, or_false] at h; subst h; exact T.no_BadRule_number) (e_ixU (e_lb (e_var (r := (qL (rEx (clA a)))) (i := 6) h79 rfl)) (e_c (r := rNat) (x := 3) fun _ => rfl))) (al_cons (e_fldX (K := K) [7, 8, 11] (xf_all T) (fun n h => by simp only [List.mem_cons, List.not_mem_nil, or_false] at h; rcases h with rfl | rfl | rfl <;> first | exact T.no_BadSign_index | exact T.no_BadIndex_index | exact T.no_NoFault_index) (e_ixU (e_lb (e_var (r := (qL (rEx (clA a)))) (i := 6) h79 rfl)) (e_c (r := rNat) (x := 4) fun _ => rfl))) (al_cons (e_fldX (K := K) [9] (xf_all T) (fun n h => by simp only [List.mem_cons, List.not_mem_nil, or_false] at h; subst h; exact T.no_BadSpan_start) (e_ixU (e_lb (e_var (r := (qL (rEx (clA a)))) (i := 6) h79 rfl)) (e_c (r := rNat) (x := 5) fun _ => rfl))) (al_cons (e_fldX (K := K) [7, 8, 11] (xf_all T) (fun n h => by simp only [List.mem_cons, List.not_mem_nil, or_false] at h; rcases h with rfl | rfl | rfl <;> first | exact T.no_BadSign_index | exact T.no_BadIndex_index | exact T.no_NoFault_index) (e_ixU (e_lb (e_var (r := (qL (rEx (clA a)))) (i := 6) h79 rfl)) (e_c (r := rNat) (x := 7) fun _ => rfl))) (al_cons (e_fldX (K := K) [12] (xf_all T) (fun n h => by simp only [List.mem_cons, List.not_mem_nil, or_false] at h; subst h; exact T.no_OutsideWindow_place) (e_ixU (e_lb (e_var (r := (qL (rEx (clA a)))) (i := 6) h79 rfl)) (e_c (r := rNat) (x := 9) fun _ => rfl))) (al_cons (e_fldX (K := K) [5] (xf_all T) (fun n h => by simp only [List.mem_cons, List.not_mem_nil, or_false] at h; subst h; exact T.no_TooLong_length) (e_ixU (e_lb (e_var (r := (qL (rEx (clA a)))) (i := 6) h79 rfl)) (e_c (r := rNat) (x := 11) fun _ => rfl))) (al_cons (e_fldX (K := K) [0, 6, 13] (xf_all T) (fun n h => by simp only [List.mem_cons, List.not_mem_nil, or_false] at h; rcases h with rfl | rfl | rfl <;> first | exact T.no_BadCount_count | exact T.no_TooManySteps_count | exact T.no_WrongText_count) (e_ixU (e_lb (e_var (r := (qL (rEx (clA a)))) (i := 6) h79 rfl)) (e_c (r := rNat) (x := 12) fun _ => rfl))) (al_cons (e_fldX (K := K) [0, 6, 13] (xf_all T) (fun n h => by simp only [List.mem_cons, List.not_mem_nil, or_false] at h; rcases h with rfl | rfl | rfl <;> first | exact T.no_BadCount_count | exact T.no_TooManySteps_count | exact T.no_WrongText_count) (e_ixU (e_lb (e_var (r := (qL (rEx (clA a)))) (i := 6) h79 rfl)) (e_c (r := rNat) (x := 14) fun _ => rfl))) al_nil))))))))))))) e86 h (fun v => [some v2, some v13, some v24, some v31, some v40, some v67, some v74, y77, y78, some v, none, none, none]) (fun _ => rfl) fun told_167 v168 F130 H131 e132 e133 h169 h => ?_
    replace h79 := Mono.mono (r := (qL (rEx (clA a)))) e132.ff h79
    replace h80 := Mono.mono (r := rI) e132.ff h80
    replace h81 := Mono.mono (r := rI) e132.ff h81
    replace h82 := Mono.mono (r := qS) e132.ff h82
    refine sq_if (c := c) (t_or (t_not (t_val (e_all (e_nlb (e_lc (p := fun x170 => M.ok true) (f := fun x170 => (m__law_same (Sum.inl x170 : IT) (Sum.inl number_12 : IT))) (σ := [some v2, some v13, some v24, some v31, some v40, some v67, some v74, y77, y78, some v168, none, none, none]) (r := rI) (r' := rB) (w' := c.w) (i_list (e_lb (e_var (r := (qL rI)) (i := 9) h169 rfl))) (fun F174 x170 σ2 => ∃ v172, σ2 = [some v2, some v13, some v24, some v31, some v40, some v67, some v74, y77, y78, some v168, none, none, some v172] ∧ rI F174 v172 x170) (@fun x v F4 H4 Q e h k => k [some v2, some v13, some v24, some v31, some v40, some v67, some v74, y77, y78, some v168, none, none, some v] rfl ⟨v, rfl, h⟩) (fun x170 σ2 F174 H175 e171 tg => by obtain ⟨v172, rfl, h173⟩ := tg; exact t_yes) (fun x170 σ2 F174 H175 e171 tg => by obtain ⟨v172, rfl, h173⟩ := tg; exact e_at (e_call (f := (fun (x : IT × IT × Unit) => m__law_same x.1 x.2.1)) (fun h => h) (a_cons (e_inl (e_var (r := rI) (i := 12) h173 rfl)) (a_cons (e_inl (((e_var (r := rI) (i := 1) h80 rfl)).up e171)) a_nil))) rfl)))))) (t_not (t_val (e_call (f := (fun (x : IT × IT × Unit) => m__law_same x.1 x.2.1)) (fun h => h) (a_cons (e_inl (e_fldX (K := K) [9] (xf_all T) (fun n h => by simp only [List.mem_cons, List.not_mem_nil, or_false] at h; subst h; exact T.no_BadSpan_end) (e_ixU (e_lb (e_var (r := (qL (rEx (clA a)))) (i := 6) h79 rfl)) (e_c (r := rNat) (x := 5) fun _ => rfl)))) (a_cons (e_inl (e_var (r := rI) (i := 2) h81 rfl)) a_nil)))))) e133 h (fun F182 H183 e184 h => ?_) (fun F182 H183 e184 h => ?_)
    ·
      have e185 := e133.trans e184
      exact sq_ret (c := c) (e_c (r := rB) (x := false) fun _ => rfl) e185 h fun _ _ q => q
    ·
      replace h79 := Mono.mono (r := (qL (rEx (clA a)))) e184.ff h79
      replace h82 := Mono.mono (r := qS) e184.ff h82
      have e186 := e133.trans e184
      refine sq_for (c := c) (i_listF (e_frz (e_lstP (r := qW) (al_cons (e_W0 (e_c (r := qN) (x := ()) fun _ => rfl)) (al_cons (e_W1 (e_str (x := [49, 50]) (by decide +kernel) (by decide +kernel))) (al_cons (e_W2 (e_tup2 (a_cons (e_c (r := rI) (x := 3) fun _ => rfl) (a_cons (e_c (r := rI) (x := 1) fun _ => rfl) a_nil)))) (al_cons (e_W1 (e_var (r := qS) (i := 5) h82 rfl)) al_nil)))) (by simp)))) e186 h (fun F191 (s187 : Unit) F192 σ' H193 => ∃ (y188 : Option V), σ' = [some v2, some v13, some v24, some v31, some v40, some v67, some v74, y77, y78, some v168, y188, none, none] ∧ Xt F H F192 H193 ∧ Same F191 F192 ∧ (qL (rEx (clA a))) F192 v74 made_73 ∧ qS F192 v67 text_66) (fun _ _ _ _ _ hN => ?_) (fun F196 H197 e198 e199 => ?_) (fun nx200 bk201 F191 s187 F192 σ' H193 F202 H203 x205 v206 next207 hN e204 hx208 hn209 hb210 h => ?_) (fun F191 s187 F192 σ' H193 hN h => ?_)
      · obtain ⟨y188, _, e194, sf195, _, _⟩ := hN; exact ⟨sf195, e194.fh⟩
      ·
        replace h79 := Mono.mono (r := (qL (rEx (clA a)))) e198.ff h79
        replace h82 := Mono.mono (r := qS) e198.ff h82
        exact ⟨_, rfl, e199, Same.refl _, h79, h82⟩
      ·
        obtain ⟨y188, rfl, e194, sf195, h189, h190⟩ := hN
        replace h189 := Mono.mono (r := (qL (rEx (clA a)))) e204.ff h189
        replace h190 := Mono.mono (r := qS) e204.ff h190
        have e211 := e194.trans e204
        replace sf195 := sf195.trans e204.ff
        refine g1 [some v2, some v13, some v24, some v31, some v40, some v67, some v74, y77, y78, some v168, some v206, none, none] rfl ?_
        refine sq_if (c := c) (t_not (t_val (e_call (f := (fun (x : Wt × Unit) => m__law_any_kept x.1)) (fun h => h) (a_cons (e_var (r := qW) (i := 10) hx208 rfl) a_nil)))) e211 h (fun F214 H215 e216 h => ?_) (fun F214 H215 e216 h => ?_)
        ·
          replace sf195 := sf195.trans e216.ff
          have e217 := e211.trans e216
          exact sq_ret (c := c) (e_c (r := rB) (x := false) fun _ => rfl) e217 h fun _ _ q => q
        ·
          replace sf195 := sf195.trans e216.ff
          replace h189 := Mono.mono (r := (qL (rEx (clA a)))) e216.ff h189
          replace h190 := Mono.mono (r := qS) e216.ff h190
          have e218 := e211.trans e216
          exact hn209 () _ _ _ ⟨_, rfl, e218, sf195, h189, h190⟩ h
      ·
        obtain ⟨y188, rfl, e194, sf195, h189, h190⟩ := hN
        exact sq_ret (c := c) (e_and (e_call (f := (fun (x : IT × IT × Unit) => m__law_same x.1 x.2.1)) (fun h => h) (a_cons (e_inr (e_fldXT (K := K) [10] (xf_all T) (fun n h => by simp only [List.mem_cons, List.not_mem_nil, or_false] at h; subst h; exact T.no_Impossible_fragment) (e_ixU (e_lb (e_var (r := (qL (rEx (clA a)))) (i := 6) h189 rfl)) (e_c (r := rNat) (x := 6) fun _ => rfl)))) (a_cons (e_inr (e_var (r := qS) (i := 5) h190 rfl)) a_nil))) (e_call (f := (fun (x : IT × IT × Unit) => m__law_same x.1 x.2.1)) (fun h => h) (a_cons (e_inr (e_fldXT (K := K) [3] (xf_all T) (fun n h => by simp only [List.mem_cons, List.not_mem_nil, or_false] at h; subst h; exact T.no_UnknownName_name) (e_ixU (e_lb (e_var (r := (qL (rEx (clA a)))) (i := 6) h189 rfl)) (e_c (r := rNat) (x := 13) fun _ => rfl)))) (a_cons (e_inr (e_var (r := qS) (i := 5) h190 rfl)) a_nil)))) e194 h fun _ _ q => q
end SF
/-! ### small steps -/
namespace SF
open PySem PySem.Spec PyProof.Rows L2
theorem tr_ok {α β : Type} {m : M α} {x : α} {h : Ex → M β} {k : α → M β} {y : M β} (e : m = .ok x) (q : k x = y) : M.tr m h k = y := by rw [e]; exact q
theorem tr_exc {α β : Type} {m : M α} {x : Ex} {h : Ex → M β} {k : α → M β} {y : M β} (e : m = .exc x) (q : h x = y) : M.tr m h k = y := by rw [e]; exact q
theorem nox_is {α : Type} {m : M α} {x : α} (e : m = .ok x) : m.nox = .ok x := by rw [e]; rfl
theorem mul_n {x y : Nat} (h : x < 1000000000) : M.gd (mulOk2 x y) (M.ok (x * y)) = .ok (x * y) := M.gd_pos (mulOk2_nat h)
theorem of_at {l : List Nat} {i : Nat} (h : i < l.length) : M.of l[i]? = .ok (dg l i) := by unfold dg; rw [List.getElem?_eq_getElem h]; rfl
theorem cat_ok {α : Type} {a b : List α} (h : a.length + b.length ≤ 1000000) : M.cat a b = .ok (a ++ b) := by
  unfold M.cat
  exact M.gd_pos (by rw [sl64]; omega)
theorem jn_is {σ β : Type} {rest : σ → M β} {body : (σ → M β) → M β} {y : β} (P : σ → Prop) (h1 : ∀ s, P s → rest s = .ok y) (h2 : ∀ j : σ → M β, (∀ s, P s → j s = .ok y) → body j = .ok y) : M.jn rest body = .ok y := h2 rest h1
theorem cut_init (l : List Nat) : cutG l none (some (-(1 : Int))) = l.dropLast := by
  unfold cutG
  rw [HT.sIx_none, List.drop_zero, Nat.sub_zero, List.dropLast_eq_take]
  congr 1
  show (if (-(1 : Int)) < 0 then ((-(1 : Int)) + (l.length : Int)).toNat else min (-(1 : Int)).toNat l.length) = _
  rw [if_pos (by omega)]
  omega
theorem at_last {α : Type} {l : List α} {n : Nat} {x : α} (h : l.length = n + 1) (hx : l[n]? = some x) : M.of (atI l (-(1 : Int))) = .ok x := by
  unfold atI ixN
  rw [if_neg (by omega), if_pos (by omega)]
  have e : ((-(1 : Int)) + (l.length : Int)).toNat = n := by omega
  simp only [e]
  show M.of l[n]? = _
  rw [hx]; rfl
theorem lc_both2 {α β : Type} {cond : α → M Bool} {p : α → Bool} {f : α → β} : ∀ {l : List α}, (∀ x ∈ l, cond x = .ok (p x)) → M.lc cond (fun x => M.ok (f x)) l = .ok ((l.filter p).map f)
  | [], _ => rfl
  | x :: l, h => by
    unfold M.lc
    rw [h x List.mem_cons_self, lc_both2 fun y hy => h y (List.mem_cons_of_mem _ hy), List.filter_cons]
    cases p x <;> rfl
end SF
/-! ### what the law of k04 answers -/
namespace SF
open PySem PySem.Spec PyProof.Rows L2
theorem w_cell_ok (s : List Int) (k : Nat) : w_cell s k = .ok (s[k]?.getD 0) := by unfold w_cell; rfl
theorem same_i (n : Int) : m__law_same (Sum.inl n : IT) (Sum.inl n : IT) = .ok true := by
  unfold m__law_same m__law_is_number
  exact iy rfl (iy rfl (by rw [decide_eq_true rfl]))
theorem same_s (n : List Nat) : m__law_same (Sum.inr n : IT) (Sum.inr n : IT) = .ok true := by
  unfold m__law_same
  exact ino rfl (by rw [decide_eq_true rfl]; rfl)
theorem okdB (l : List Bool) : Deep.okd (qL rB) l = true := List.all_eq_true.mpr fun _ _ => rfl
theorem kept_ok {x : Wt} (h : Deep.okd qW x = true) : m__law_any_kept x = .ok true := by
  unfold m__law_any_kept
  have e : (List.range' 0 14).map (fun _ => x) = [x, x, x, x, x, x, x, x, x, x, x, x, x, x] := rfl
  have o : Deep.okd (qL qW) [x, x, x, x, x, x, x, x, x, x, x, x, x, x] = true := List.all_eq_true.mpr fun y hy => by
    simp only [List.mem_cons, List.not_mem_nil, or_false, or_self] at hy
    rw [hy]; exact h
  refine be rfl (be (x := [x, x, x, x, x, x, x, x, x, x, x, x, x, x]) (be (M.gd_pos (by rw [sl64]; omega)) rfl) ((M.gd_pos ⟨o, o⟩).trans (by rw [decide_eq_true rfl])))
def kindsL (c : Nat) : List Bool := [(decide (nrm c = 0)), (decide (nrm c = 8)), (decide (nrm c = 2)), (decide (nrm c = 1)), (decide (nrm c = 7)), (decide (nrm c = 9)), (decide (nrm c = 10)), (decide (nrm c = 11)), (decide (nrm c = 4)), (decide (nrm c = 12)), (decide (nrm c = 14)), (decide (nrm c = 5)), (decide (nrm c = 6)), (decide (nrm c = 3)), (decide (nrm c = 13))]
theorem kinds_is (e : Ex) : m__law_kinds e = .ok (kindsL e.cls) := by unfold m__law_kinds; rfl
theorem step {L : List Ex} {e : Ex} {k : Nat} {next : M Bool} (h0 : L[k]? = some e) (h1 : kindsL e.cls = (List.range' 0 15).map fun x => decide (x = k)) :
    ((M.of L[k]?).bd fun e_109 => M.ite (M.ok ((!true) || (!true))) ((M.ok false)) (M.ite ((m__law_kinds e_109).bd fun t123 => ((M.gd (15 ≤ sizeLine) (M.ok (List.range' 0 15))).bd fun z => M.ok (z.map fun x117 => (decide (x117 = k)))).bd fun t124 => M.gd (Deep.okd (qL rB) t123 = true ∧ Deep.okd (qL rB) t124 = true) (M.ok (!decide (t123 = t124)))) ((M.ok false)) next)) = next := by
  rw [h0]
  refine be rfl (ino rfl (ino (be (kinds_is e) (be (be (M.gd_pos (by rw [sl64]; omega)) rfl) ((M.gd_pos ⟨okdB _, okdB _⟩).trans (by rw [h1, decide_eq_true rfl]; rfl)))) rfl))
theorem law_true (ns : List Int) : m_law ns = .ok true := by
  unfold m_law
  refine be (be (be (be (be (w_cell_ok _ _) rfl) (M.gd_pos (by decide))) rfl) rfl) ?_
  generalize ((((ns[0]?.getD 0) % ((1000000000 + 51) : Int)).toNat : Nat) : Int) - ((50 : Nat) : Int) = n
  refine be (be (be (be (be (w_cell_ok _ _) rfl) (M.gd_pos (by decide))) rfl) rfl) ?_
  generalize ((((ns[1]?.getD 0) % (90 : Int)).toNat : Nat) : Int) - ((5 : Nat) : Int) = o
  refine be (x := SIGNSl) rfl (be (be (be (w_cell_ok _ _) rfl) (M.gd_pos (by decide))) ?_)
  have h4 : ((ns[4]?.getD 0) % (4 : Int)).toNat < 4 := by omega
  obtain ⟨tl, htl, etl⟩ : ∃ tl ∈ [[], [60], [62], [83]], M.of [[], [60], [62], [83]][((ns[4]?.getD 0) % (4 : Int)).toNat]? = .ok (tl : List Nat) :=
    ⟨_, List.getElem_mem (by show _ < 4; exact h4), by rw [List.getElem?_eq_getElem (by show _ < 4; exact h4)]; rfl⟩
  generalize ((ns[2]?.getD 0) % (52 : Int)).toNat = at_
  have hcut : ∀ z, (cutG SIGNSl (some ((at_ : Nat) : Int)) z).length ≤ 52 ∧ ∀ c ∈ cutG SIGNSl (some ((at_ : Nat) : Int)) z, c < 1114112 := fun z => by
    unfold cutG
    refine ⟨Nat.le_trans (by rw [List.length_take, List.length_drop]; exact Nat.min_le_right _ _) (Nat.sub_le _ _), fun c hc => ?_⟩
    have hc := List.mem_of_mem_drop (List.mem_of_mem_take hc)
    have : ∀ c ∈ SIGNSl, c < 1114112 := by decide +kernel
    exact this c hc
  refine be (x := _) (be (be (be (be (be (be (be (w_cell_ok _ _) rfl) (M.gd_pos (by decide))) rfl) rfl) rfl) rfl) (be (be (be (be (w_cell_ok _ _) rfl) (M.gd_pos (by decide))) etl) (cat_ok (by
    have h1 := (hcut (some (((at_ + ((ns[3]?.getD 0) % (9 : Int)).toNat : Nat)) : Int))).1
    have h2 : tl.length ≤ 1 := by
      simp only [List.mem_cons, List.not_mem_nil, or_false] at htl
      rcases htl with rfl | rfl | rfl | rfl <;> simp
    omega)))) ?_
  have htx : ∀ c ∈ cutG SIGNSl (some ((at_ : Nat) : Int)) (some (((at_ + ((ns[3]?.getD 0) % (9 : Int)).toNat : Nat)) : Int)) ++ tl, c < 1114112 := fun c hc => by
    rcases List.mem_append.mp hc with z | z
    · exact (hcut _).2 c z
    · simp only [List.mem_cons, List.not_mem_nil, or_false] at htl
      rcases htl with rfl | rfl | rfl | rfl
      · cases z
      · rw [List.mem_singleton.mp z]; decide
      · rw [List.mem_singleton.mp z]; decide
      · rw [List.mem_singleton.mp z]; decide
  have hln : (cutG SIGNSl (some ((at_ : Nat) : Int)) (some (((at_ + ((ns[3]?.getD 0) % (9 : Int)).toNat : Nat)) : Int)) ++ tl).length ≤ 60 := by
    have h1 := (hcut (some (((at_ + ((ns[3]?.getD 0) % (9 : Int)).toNat : Nat)) : Int))).1
    have h2 : tl.length ≤ 1 := by
      simp only [List.mem_cons, List.not_mem_nil, or_false] at htl
      rcases htl with rfl | rfl | rfl | rfl <;> simp
    rw [List.length_append]; omega
  generalize cutG SIGNSl (some ((at_ : Nat) : Int)) (some (((at_ + ((ns[3]?.getD 0) % (9 : Int)).toNat : Nat)) : Int)) ++ tl = tx at htx hln
  refine be rfl (be (M.gd_pos (by rw [sl64]; omega)) ?_)
  refine fr_unit (fun k : Nat => k < 15) _ (fun k hk => by have := List.mem_range'_1.mp hk; omega) (fun k next brk hk => ?_) ?_
  · have hk : k = 0 ∨ k = 1 ∨ k = 2 ∨ k = 3 ∨ k = 4 ∨ k = 5 ∨ k = 6 ∨ k = 7 ∨ k = 8 ∨ k = 9 ∨ k = 10 ∨ k = 11 ∨ k = 12 ∨ k = 13 ∨ k = 14 := by omega
    rcases hk with rfl | rfl | rfl | rfl | rfl | rfl | rfl | rfl | rfl | rfl | rfl | rfl | rfl | rfl | rfl <;> exact step rfl rfl
  · have hI : ∀ {c : Nat} {f : Str} {cs : List Nat} {v : Int} {fs : List (Str × Fv)}, c ∈ cs → fs.lookup f = some (.int v) → M.gd (c ∈ cs) (xI ⟨c, fs⟩ f) = .ok v := fun {c f cs v fs} h1 h2 => by
      rw [M.gd_pos h1]
      unfold xI
      rw [show (Ex.mk c fs).fs.lookup f = some (.int v) from h2]
    have hT : ∀ {c : Nat} {f : Str} {cs : List Nat} {v : List Nat} {fs : List (Str × Fv)}, v.length ≤ 60 → c ∈ cs → fs.lookup f = some (.txt v) → M.gd (c ∈ cs) (xT ⟨c, fs⟩ f) = .ok v := fun {c f cs v fs} h0 h1 h2 => by
      rw [M.gd_pos h1]
      unfold xT
      rw [show (Ex.mk c fs).fs.lookup f = some (.txt v) from h2]
      exact M.gd_pos (by rw [sl64]; omega)
    refine be (x := [n, n, n, n, n, n, n, n, n, n, n]) ?_ ?_
    · exact be (be rfl (hI (by simp) rfl)) (be (be rfl (hI (by simp) rfl)) (be (be rfl (hI (by simp) rfl)) (be (be rfl (hI (by simp) rfl)) (be (be rfl (hI (by simp) rfl)) (be (be rfl (hI (by simp) rfl)) (be (be rfl (hI (by simp) rfl)) (be (be rfl (hI (by simp) rfl)) (be (be rfl (hI (by simp) rfl)) (be (be rfl (hI (by simp) rfl)) (be (be rfl (hI (by simp) rfl)) (M.gd_pos (by rw [sl64]; simp))))))))))))
    · refine ino (ino (be (be (x := [true, true, true, true, true, true, true, true, true, true, true]) ?_ rfl) rfl) (be (be (be (be rfl (hI (by simp) rfl)) rfl) (same_i o)) rfl)) (be rfl ?_)
      · have : ∀ l : List Int, (∀ x ∈ l, x = n) → M.lc (fun x170 => M.ok true) (fun x170 => (m__law_same (Sum.inl x170 : IT) (Sum.inl n : IT))) l = .ok (l.map fun _ => true) := fun l => by
          induction l with
          | nil => intro _; rfl
          | cons x l ih =>
            intro h
            rw [lc_step, M.nox_ok, M.bd_ok, if_pos rfl, h x List.mem_cons_self, same_i, M.nox_ok, M.bd_ok, ih fun y hy => h y (List.mem_cons_of_mem _ hy)]
            rfl
        exact this _ fun x hx => by
          simp only [List.mem_cons, List.not_mem_nil, or_false, or_self] at hx
          exact hx
      · refine fr_unit (fun x : Wt => Deep.okd qW x = true) _ (fun x hx => ?_) (fun x next brk hx => ino (be (kept_ok hx) rfl) rfl) ?_
        · simp only [List.mem_cons, List.not_mem_nil, or_false] at hx
          rcases hx with rfl | rfl | rfl | rfl
          · rfl
          · rfl
          · rfl
          · exact List.all_eq_true.mpr fun c hc => decide_eq_true (htx c hc)
        · exact iy (be (be (be rfl (hT hln (by simp) rfl)) rfl) (same_s tx)) (be (be (be rfl (hT hln (by simp) rfl)) rfl) (same_s tx))
end SF
namespace SF
open PySem PySem.Spec PyProof.Rows L2
def sp_law (K : PySem.W.Frag) : Sp := fun vs H Q _ => ∃ (a : Addr) (ns : List Int), vs = [.ref a] ∧ SqL K H a (ns.map V.int) ∧ ns.length ≤ 63 ∧ ∀ H', Q (.bl true) H'
section
variable {w : World} {K : PySem.W.Frag} {mg : Str → Option Value} {base : Heap} {a : Ad}
theorem ok_law (T : Txt K mg a) : FnOk PW w K mg base CX0 4 a.law a.d_law ["_law_script"] (sp_law K) :=
  ((ok_m_law T).mono (by decide)).imp fun vs H Q E h => by
    obtain ⟨b, ns, rfl, hs, h63, hq⟩ := h
    refine ⟨fun _ => none, (ns, ()), fun b o h => (by cases h), ⟨_, _, rfl, ⟨b, rfl, hs⟩, rfl⟩, ?_⟩
    show Po _ (m_law ns)
    rw [law_true ns]
    exact fun v F' H' e hr => by rw [show v = _ from hr]; exact hq H'
end
end SF
open PySem PySem.W PySem.Calls PyProof.Rows
set_option maxRecDepth 100000 in
set_option maxHeartbeats 0 in
theorem PySem.Challenge.cw_surefaults_k04_errors_holds : PySem.Challenge.rw_surefaults_k04_errors.Holds := by
  w_on; o_law
  refine HandSHeadRun.head_any (r := OpenLaw.row PySem.Challenge.rw_surefaults_k04_errors) (q := view (OpenLaw.row PySem.Challenge.rw_surefaults_k04_errors).prog [23]) (H := SF.hk) (ob := SF.ob) (M := 200000) (loose := SF.loose) (d := HandSHeadRun.topDef (OpenLaw.row PySem.Challenge.rw_surefaults_k04_errors).prog 23) (kwd := []) SF.ob_eq
    (by kernel_rfl) (fun s => by kernel_rfl) SF.run (by kernel_rfl) (by kernel_rfl) (by kernel_rfl) (by rfl) (by first | assumption | decide +kernel) (by decide +kernel) ⟨rfl, rfl, rfl, rfl, rfl, by decide +kernel⟩ ?hw ?hc
  case hw => w_witness2
  case hc =>
    refine L2.walk_ofE (l := PySem.Challenge.rw_surefaults_k04_errors) (n := 63) (k := 4) (x := "_law_script") (CX := L2.CX0) rfl (by decide) (by kernel_rfl) ⟨rfl, by decide, by decide⟩ ?F (fun _ _ _ _ z => z)
    intro w mg fa h Y G hmg0
    obtain ⟨K, KX, c⟩ := Y
    have hmg : mg ("law" : PySem.Str) = some (.ref fa) := by
      have e : (HandSHeadRun.topDef (OpenLaw.row PySem.Challenge.rw_surefaults_k04_errors).prog 23).name = ("law" : PySem.Str) := by kernel_rfl
      rw [← e]
      exact hmg0
    obtain ⟨a, T, ha, hb⟩ := SF.txt_of KX G c
    have e := hmg.symm.trans T.m_law
    injection e with e
    injection e with e
    subst e
    exact ⟨K, a.d_law, SF.sp_law K, KX, hb, fun H a ns hl _ hS => ⟨a, ns, rfl, hS, hl, fun _ => rfl⟩, fun base _ _ => SF.ok_law T⟩
