import PyProof.Rows.All
import Wide.All
import OpenK.AllK
import Wide.FinOn
import PySem.Challenge.RW_twiceeach_k44_whole_fewest_pieces
import HandS.ForMost
import HandS.Exc
import HandS.TryOnly
import HandS.ExcOwn
import HandS.WordsExc
import HandS.ExcInit
import HandS.ExcField
import HandS.ExcIs
import HandS.Defaults
import HandS.Star
import HandS.TupAny
import HandS.Conv
import HandS.More
import HandS.IsInst
import HandS.ClsMeth
import HandS.Sort
import HandS.Style
import KE.KExcSuper
import KE.KExcIs
import HandS.ExcSuper
import HandS.CallSlots
set_option linter.all false
/-! The plain law: what the two searches compute, and that they agree. No program here. -/
namespace TW
/-- lo, lo + 1, .. (n of them) -/
def ran (lo : Int) (n : Nat) : List Int := (List.range n).map fun i : Nat => lo + (i : Int)
/-- each list longer by one of its next items -/
def ext (S : List Int → List Int) (L : List (List Int)) : List (List Int) := L.flatMap fun p => (S p).map fun s => p ++ [s]

theorem mem_ran {lo : Int} {n : Nat} {b : Int} : b ∈ ran lo n ↔ lo ≤ b ∧ b < lo + (n : Int) := by
  unfold ran
  rw [List.mem_map]
  constructor
  · rintro ⟨i, hi, rfl⟩
    have := List.mem_range.mp hi
    omega
  · rintro ⟨h1, h2⟩
    exact ⟨(b - lo).toNat, List.mem_range.mpr (by omega), by omega⟩
theorem ran_len (lo : Int) (n : Nat) : (ran lo n).length = n := by
  unfold ran
  rw [List.length_map, List.length_range]
theorem ran_get {lo : Int} {n i : Nat} (h : i < n) : (ran lo n)[i]? = some (lo + (i : Int)) := by
  unfold ran
  rw [List.getElem?_map, List.getElem?_range h]
  rfl
theorem ran_split {lo : Int} (a b : Nat) : ran lo (a + b) = ran lo a ++ ran (lo + (a : Int)) b := by
  unfold ran
  rw [List.range_add, List.map_append, List.map_map]
  congr 1
  apply List.map_congr_left
  intro i _
  show lo + ((a + i : Nat) : Int) = lo + (a : Int) + (i : Int)
  omega
theorem mem_ext {S : List Int → List Int} {L : List (List Int)} {o : List Int} : o ∈ ext S L ↔ ∃ p ∈ L, ∃ s ∈ S p, o = p ++ [s] := by
  unfold ext
  rw [List.mem_flatMap]
  constructor
  · rintro ⟨p, hp, h⟩
    obtain ⟨s, hs, e⟩ := List.mem_map.mp h
    exact ⟨p, hp, s, hs, e.symm⟩
  · rintro ⟨p, hp, s, hs, e⟩
    exact ⟨p, hp, List.mem_map.mpr ⟨s, hs, e.symm⟩⟩
theorem ext_filter {S S' : List Int → List Int} {g g' : List Int → Bool} {t : List Int → Int → Bool} : ∀ (L : List (List Int)),
    (∀ p ∈ L, g p = true → S' p = (S p).filter (t p)) → (∀ p ∈ L, ∀ s ∈ S p, g' (p ++ [s]) = (g p && t p s)) → ext S' (L.filter g) = (ext S L).filter g'
  | [], _, _ => rfl
  | p :: L, h1, h2 => by
    have ih := ext_filter (S := S) (S' := S') (g := g) (g' := g') (t := t) L (fun q hq => h1 q (List.mem_cons_of_mem _ hq)) (fun q hq => h2 q (List.mem_cons_of_mem _ hq))
    have hp : ((S p).map fun s => p ++ [s]).filter g' = if g p = true then (S' p).map (fun s => p ++ [s]) else [] := by
      rw [List.filter_map]
      by_cases c : g p = true
      · rw [if_pos c, h1 p List.mem_cons_self c]
        congr 1
        apply List.filter_congr
        intro s hs
        show g' (p ++ [s]) = t p s
        rw [h2 p List.mem_cons_self s hs, c, Bool.true_and]
      · rw [if_neg c]
        have e : (S p).filter (g' ∘ fun s => p ++ [s]) = [] := by
          rw [List.filter_eq_nil_iff]
          intro s hs
          show ¬ g' (p ++ [s]) = true
          rw [h2 p List.mem_cons_self s hs, Bool.and_eq_true]
          exact fun z => c z.1
        rw [e]
        rfl
    show ext S' ((p :: L).filter g) = (((S p).map fun s => p ++ [s]) ++ ext S L).filter g'
    rw [List.filter_append, ← ih, hp, List.filter_cons]
    by_cases c : g p = true
    · rw [if_pos c, if_pos c]
      rfl
    · rw [if_neg c, if_neg c]
      rfl
theorem ext_append (S : List Int → List Int) (L M : List (List Int)) : ext S (L ++ M) = ext S L ++ ext S M := List.flatMap_append ..
theorem ext_one (S : List Int → List Int) (p : List Int) : ext S [p] = (S p).map fun s => p ++ [s] := by
  unfold ext
  rw [List.flatMap_cons, List.flatMap_nil, List.append_nil]
theorem ext_len {S : List Int → List Int} {c : Nat} : ∀ (L : List (List Int)), (∀ p ∈ L, (S p).length ≤ c) → (ext S L).length ≤ L.length * c
  | [], _ => Nat.zero_le _
  | p :: L, h => by
    have ih := ext_len (S := S) (c := c) L fun q hq => h q (List.mem_cons_of_mem _ hq)
    have hp := h p List.mem_cons_self
    show (((S p).map fun s => p ++ [s]) ++ ext S L).length ≤ (L.length + 1) * c
    rw [List.length_append, List.length_map, Nat.add_mul, Nat.one_mul]
    omega

/-! ### the orders -/
/-- may b stand behind o at all -/
def okB (s : Bool) (o : List Int) (b : Int) : Bool := decide (b ≠ 0) && (decide (0 < b) || s) && !decide (b ∈ o) && !decide (0 - b ∈ o)
def ordS (m : Nat) (s : Bool) (o : List Int) : List Int := (ran (0 - (m : Int)) ((m : Int) + 1 - (0 - (m : Int))).toNat).filter (okB s o)
def ordL (m : Nat) (s : Bool) : Nat → List (List Int)
  | 0 => [[]]
  | k + 1 => ext (ordS m s) (ordL m s k)
def lean : List Int → Bool
  | a :: b :: r => decide (b ≠ a + 1) && lean (b :: r)
  | _ => true
def stepOk (o : List Int) (b : Int) : Bool := match o.getLast? with
  | none => true
  | some x => decide (b ≠ x + 1)
def mayF (o : List Int) (b : Int) : Bool := !(decide (b = 0) || decide (b ∈ o) || decide (-b ∈ o)) && stepOk o b
def leanS (m : Nat) (s : Bool) (o : List Int) : List Int := (ran (if s then -(m : Int) else 1) ((m : Int) + 1 - (if s then -(m : Int) else 1)).toNat).filter (mayF o)
def leanL (m : Nat) (s : Bool) : Nat → List (List Int)
  | 0 => [[]]
  | k + 1 => ext (leanS m s) (leanL m s k)

theorem lean_append : ∀ (o : List Int) (b : Int), lean (o ++ [b]) = (lean o && stepOk o b)
  | [], b => rfl
  | [a], b => by
    show (decide (b ≠ a + 1) && true) = (true && decide (b ≠ a + 1))
    rw [Bool.and_true, Bool.true_and]
  | a :: c :: r, b => by
    have ih := lean_append (c :: r) b
    show (decide (c ≠ a + 1) && lean ((c :: r) ++ [b])) = ((decide (c ≠ a + 1) && lean (c :: r)) && stepOk (a :: c :: r) b)
    rw [ih, Bool.and_assoc]
    congr 2
theorem leanS_eq (m : Nat) (s : Bool) (o : List Int) : leanS m s o = (ordS m s o).filter (stepOk o) := by
  unfold leanS ordS
  rw [List.filter_filter]
  cases s with
  | true =>
    rw [if_pos rfl, show (0 : Int) - (m : Int) = -(m : Int) by omega]
    apply List.filter_congr
    intro b _
    unfold mayF okB
    rw [show (0 : Int) - b = -b by omega]
    by_cases h0 : b = 0
    · simp [h0]
    · simp [h0, Bool.and_comm, Bool.and_assoc]
  | false =>
    rw [show ((if (false : Bool) = true then -(m : Int) else 1)) = (1 : Int) from if_neg Bool.false_ne_true]
    have e : ran (0 - (m : Int)) ((m : Int) + 1 - (0 - (m : Int))).toNat = ran (0 - (m : Int)) (m + 1) ++ ran 1 ((m : Int) + 1 - 1).toNat := by
      have := ran_split (lo := 0 - (m : Int)) (m + 1) m
      rw [show ((m : Int) + 1 - (0 - (m : Int))).toNat = m + 1 + m by omega, this]
      congr 2
      · omega
      · omega
    rw [e, List.filter_append]
    have e1 : (ran (0 - (m : Int)) (m + 1)).filter (fun a => stepOk o a && okB false o a) = [] := by
      rw [List.filter_eq_nil_iff]
      intro b hb
      have := mem_ran.mp hb
      unfold okB
      have hn : ¬ 0 < b := by omega
      simp [hn]
    rw [e1, List.nil_append]
    apply List.filter_congr
    intro b hb
    have := mem_ran.mp hb
    unfold mayF okB
    rw [show (0 : Int) - b = -b by omega]
    have h0 : b ≠ 0 := by omega
    have hp : 0 < b := by omega
    simp [h0, hp, Bool.and_comm, Bool.and_assoc]
theorem leanL_eq (m : Nat) (s : Bool) : ∀ k, leanL m s k = (ordL m s k).filter lean
  | 0 => rfl
  | k + 1 => by
    show ext (leanS m s) (leanL m s k) = (ext (ordS m s) (ordL m s k)).filter lean
    rw [leanL_eq m s k]
    exact ext_filter (t := stepOk) _ (fun p _ _ => leanS_eq m s p) fun p _ b _ => lean_append p b
/-- two blocks of different pieces -/
def Apart (a b : Int) : Prop := a ≠ b ∧ a ≠ -b
def Entry (m : Nat) (s : Bool) (b : Int) : Prop := b ≠ 0 ∧ -(m : Int) ≤ b ∧ b ≤ (m : Int) ∧ (s = true ∨ 0 < b)
theorem mem_ordS {m : Nat} {s : Bool} {o : List Int} {b : Int} : b ∈ ordS m s o ↔ Entry m s b ∧ ∀ a ∈ o, Apart a b := by
  unfold ordS
  rw [List.mem_filter, mem_ran]
  unfold okB Entry Apart
  simp only [Bool.and_eq_true, Bool.or_eq_true, decide_eq_true_eq, Bool.not_eq_true', decide_eq_false_iff_not]
  constructor
  · rintro ⟨⟨h1, h2⟩, ⟨⟨h3, h4⟩, h5⟩, h6⟩
    refine ⟨⟨h3, by omega, by omega, h4.symm⟩, fun a ha => ⟨fun e => h5 (e ▸ ha), fun e => h6 ?_⟩⟩
    rw [show (0 : Int) - b = a by omega]
    exact ha
  · rintro ⟨⟨h1, h2, h3, h4⟩, h5⟩
    refine ⟨⟨by omega, by omega⟩, ⟨⟨h1, h4.symm⟩, fun hb => (h5 b hb).1 rfl⟩, fun hb => (h5 _ hb).2 (by omega)⟩
theorem mem_ordL {m : Nat} {s : Bool} : ∀ {k : Nat} {o : List Int}, o ∈ ordL m s k ↔ o.length = k ∧ (∀ b ∈ o, Entry m s b) ∧ o.Pairwise Apart
  | 0, o => by
    show o ∈ [[]] ↔ _
    rw [List.mem_singleton]
    constructor
    · rintro rfl
      exact ⟨rfl, fun b hb => (by cases hb), List.Pairwise.nil⟩
    · rintro ⟨h, _⟩
      exact List.length_eq_zero_iff.mp h
  | k + 1, o => by
    show o ∈ ext (ordS m s) (ordL m s k) ↔ _
    rw [mem_ext]
    constructor
    · rintro ⟨p, hp, b, hb, rfl⟩
      obtain ⟨h1, h2, h3⟩ := mem_ordL.mp hp
      obtain ⟨h4, h5⟩ := mem_ordS.mp hb
      refine ⟨by rw [List.length_append, h1]; rfl, fun c hc => ?_, ?_⟩
      · rcases List.mem_append.mp hc with hc | hc
        · exact h2 c hc
        · rw [List.mem_singleton.mp hc]
          exact h4
      · rw [List.pairwise_append]
        refine ⟨h3, List.pairwise_singleton .., fun a ha c hc => ?_⟩
        rw [List.mem_singleton.mp hc]
        exact h5 a ha
    · rintro ⟨h1, h2, h3⟩
      have hne : o ≠ [] := fun e => by
        rw [e] at h1
        cases h1
      have e := List.dropLast_concat_getLast hne
      rw [← e] at h2 h3
      rw [List.pairwise_append] at h3
      refine ⟨o.dropLast, mem_ordL.mpr ⟨by rw [List.length_dropLast, h1]; rfl, fun b hb => h2 b (List.mem_append_left _ hb), h3.1⟩, o.getLast hne, mem_ordS.mpr ⟨h2 _ (List.mem_append_right _ List.mem_cons_self), fun a ha => h3.2.2 a ha _ List.mem_cons_self⟩, e.symm⟩

/-! ### the cuttings -/
def cutS (n : Nat) (m k : Nat) (p : List Int) : List Int := (ran 1 ((n : Int) - p.sum + 1 - 1).toNat).filter fun s => decide ((k : Int) < (m : Int) - 1) || decide (p.sum + s = (n : Int))
def cutL (n m : Nat) : Nat → List (List Int)
  | 0 => [[]]
  | k + 1 => ext (cutS n m k) (cutL n m k)
/-- the law's cuttings -/
def cuts (n m : Nat) : List (List Int) := if m = 0 then (if n = 0 then [[]] else []) else cutL n m m
/-- the program's: the j-th turn has m - 1 - j behind it -/
def cutPS (n m j : Nat) (p : List Int) : List Int := ran 1 ((n : Int) - p.sum - ((m : Int) - 1 + (j : Int) * (-1)) + 1 - 1).toNat
def cutP (n m : Nat) : Nat → List (List Int)
  | 0 => [[]]
  | j + 1 => ext (cutPS n m j) (cutP n m j)
def cutsP (n m : Nat) : List (List Int) := if m = 0 then (if n = 0 then [[]] else []) else
  ((cutP n m (m - 1)).filter fun p => decide (p.sum < (n : Int))).map fun p => p ++ [(n : Int) - p.sum]
def feas (n m k : Nat) (p : List Int) : Bool := decide (p.sum + ((m : Int) - (k : Int)) ≤ (n : Int))

theorem filter_ran (lo : Int) (a b : Nat) (h : b ≤ a) (q : Int → Bool) (hq : ∀ x, lo ≤ x → x < lo + (a : Int) → (q x = true ↔ x < lo + (b : Int))) : (ran lo a).filter q = ran lo b := by
  have e := ran_split (lo := lo) b (a - b)
  rw [show b + (a - b) = a by omega] at e
  rw [e, List.filter_append]
  have e1 : (ran lo b).filter q = ran lo b := by
    rw [List.filter_eq_self]
    intro x hx
    have := mem_ran.mp hx
    exact (hq x (by omega) (by omega)).mpr (by omega)
  have e2 : (ran (lo + (b : Int)) (a - b)).filter q = [] := by
    rw [List.filter_eq_nil_iff]
    intro x hx z
    have := mem_ran.mp hx
    have := (hq x (by omega) (by omega)).mp z
    omega
  rw [e1, e2, List.append_nil]
theorem cutL_sum_nonneg {n m : Nat} : ∀ {k : Nat} {p : List Int}, p ∈ cutL n m k → p.length = k ∧ (∀ x ∈ p, 1 ≤ x) ∧ (k : Int) ≤ p.sum ∧ (1 ≤ k → p.sum ≤ (n : Int))
  | 0, p, h => by
    have e : p = [] := List.mem_singleton.mp h
    subst e
    exact ⟨rfl, fun x hx => (by cases hx), Int.le_refl 0, fun z => absurd z (by omega)⟩
  | k + 1, p, h => by
    obtain ⟨q, hq, s, hs, rfl⟩ := mem_ext.mp h
    obtain ⟨h1, h2, h3, h4⟩ := cutL_sum_nonneg hq
    have hs' := mem_ran.mp (List.mem_filter.mp hs).1
    refine ⟨by rw [List.length_append, h1]; rfl, fun x hx => ?_, ?_, fun _ => ?_⟩
    · rcases List.mem_append.mp hx with hx | hx
      · exact h2 x hx
      · rw [List.mem_singleton.mp hx]
        omega
    · rw [List.sum_append, List.sum_singleton]
      omega
    · rw [List.sum_append, List.sum_singleton]
      omega
theorem cutP_eq (n m : Nat) : ∀ k, 1 ≤ k → k + 1 ≤ m → cutP n m k = (cutL n m k).filter (feas n m k)
  | 0, h, _ => absurd h (by omega)
  | k + 1, _, hm => by
    have step : ∀ L : List (List Int), (∀ p ∈ L, 0 ≤ p.sum) → ext (cutPS n m k) (L.filter (feas n m k)) = (ext (cutS n m k) L).filter (feas n m (k + 1)) := by
      intro L hL
      refine ext_filter (t := fun p s => feas n m (k + 1) (p ++ [s])) L (fun p hp hg => ?_) fun p hp s hs => ?_
      · have hg' : p.sum + ((m : Int) - (k : Int)) ≤ (n : Int) := of_decide_eq_true hg
        have h0 := hL p hp
        unfold cutPS cutS
        rw [List.filter_filter]
        refine (filter_ran 1 _ _ (by omega) _ fun x hx1 hx2 => ?_).symm
        have hk : (k : Int) < (m : Int) - 1 := by omega
        simp only [feas, List.sum_append, List.sum_singleton, hk, decide_true, Bool.true_or, Bool.and_true, decide_eq_true_eq]
        omega
      · have hs' := mem_ran.mp (List.mem_filter.mp hs).1
        show feas n m (k + 1) (p ++ [s]) = (feas n m k p && feas n m (k + 1) (p ++ [s]))
        unfold feas
        rw [List.sum_append, List.sum_singleton]
        by_cases c : p.sum + s + ((m : Int) - ((k + 1 : Nat) : Int)) ≤ (n : Int)
        · rw [decide_eq_true c, decide_eq_true (show p.sum + ((m : Int) - (k : Int)) ≤ (n : Int) by omega)]
          rfl
        · rw [decide_eq_false c, Bool.and_false]
    show ext (cutPS n m k) (cutP n m k) = (ext (cutS n m k) (cutL n m k)).filter (feas n m (k + 1))
    cases k with
    | zero =>
      -- the first turn begins at the empty list, which may be too long already
      show ext (cutPS n m 0) [[]] = (ext (cutS n m 0) [[]]).filter (feas n m 1)
      by_cases c : feas n m 0 [] = true
      · have e := step [[]] (fun p hp => by rw [List.mem_singleton.mp hp]; exact Int.le_refl 0)
        rw [List.filter_cons, if_pos c] at e
        exact e
      · have c' : ¬ (m : Int) ≤ (n : Int) := fun z => c (decide_eq_true (by show (0 : Int) + ((m : Int) - ((0 : Nat) : Int)) ≤ (n : Int); omega))
        have e := step [[]] (fun p hp => by rw [List.mem_singleton.mp hp]; exact Int.le_refl 0)
        rw [List.filter_cons, if_neg c] at e
        rw [← e]
        show ext (cutPS n m 0) [[]] = []
        rw [ext_one]
        have : cutPS n m 0 [] = [] := by
          unfold cutPS
          have : ((n : Int) - ([] : List Int).sum - ((m : Int) - 1 + ((0 : Nat) : Int) * (-1)) + 1 - 1).toNat = 0 := by
            show ((n : Int) - 0 - ((m : Int) - 1 + ((0 : Nat) : Int) * (-1)) + 1 - 1).toNat = 0
            omega
          rw [this]
          rfl
        rw [this]
        rfl
    | succ j =>
      rw [cutP_eq n m (j + 1) (by omega) (by omega)]
      exact step _ fun p hp => by
        have := (cutL_sum_nonneg hp).2.2.1
        omega
theorem cutS_last (n m : Nat) (hm : 1 ≤ m) (p : List Int) : cutS n m (m - 1) p = if p.sum < (n : Int) then [(n : Int) - p.sum] else [] := by
  unfold cutS
  have hk : ¬ ((m - 1 : Nat) : Int) < (m : Int) - 1 := by omega
  have hq : ∀ s : Int, (decide (((m - 1 : Nat) : Int) < (m : Int) - 1) || decide (p.sum + s = (n : Int))) = decide (p.sum + s = (n : Int)) := fun s => by
    rw [decide_eq_false hk, Bool.false_or]
  simp only [hq]
  by_cases c : p.sum < (n : Int)
  · rw [if_pos c]
    obtain ⟨d, hd⟩ : ∃ d : Nat, ((n : Int) - p.sum + 1 - 1).toNat = d + 1 := ⟨((n : Int) - p.sum + 1 - 1).toNat - 1, by omega⟩
    rw [hd, ran_split, List.filter_append]
    have e1 : (ran 1 d).filter (fun s => decide (p.sum + s = (n : Int))) = [] := by
      rw [List.filter_eq_nil_iff]
      intro x hx z
      have := mem_ran.mp hx
      have := of_decide_eq_true z
      omega
    rw [e1, List.nil_append]
    have e2 : ran (1 + (d : Int)) 1 = [(n : Int) - p.sum] := by
      show [1 + (d : Int) + ((0 : Nat) : Int)] = _
      congr 1
      omega
    rw [e2, List.filter_cons, if_pos (decide_eq_true (by omega))]
    rfl
  · rw [if_neg c]
    have : ((n : Int) - p.sum + 1 - 1).toNat = 0 := by omega
    rw [this]
    rfl
theorem ext_last (n : Nat) : ∀ L : List (List Int), (L.filter fun p => decide (p.sum < (n : Int))).map (fun p => p ++ [(n : Int) - p.sum]) = ext (fun p => if p.sum < (n : Int) then [(n : Int) - p.sum] else []) L
  | [] => rfl
  | p :: L => by
    have ih := ext_last n L
    show _ = ((if p.sum < (n : Int) then [(n : Int) - p.sum] else []).map fun s => p ++ [s]) ++ ext _ L
    rw [← ih, List.filter_cons]
    by_cases c : p.sum < (n : Int)
    · rw [if_pos c, if_pos (decide_eq_true c)]
      rfl
    · rw [if_neg c, if_neg (by simpa using c)]
      rfl
/-- both cut alike -/
theorem cuts_same (n m : Nat) : cutsP n m = cuts n m := by
  unfold cutsP cuts
  by_cases h0 : m = 0
  · rw [if_pos h0, if_pos h0]
  · rw [if_neg h0, if_neg h0]
    obtain ⟨k, rfl⟩ : ∃ k, m = k + 1 := ⟨m - 1, by omega⟩
    have e : cutL n (k + 1) (k + 1) = ext (cutS n (k + 1) (k + 1 - 1)) (cutL n (k + 1) k) := rfl
    rw [e, show cutS n (k + 1) (k + 1 - 1) = fun p => if p.sum < (n : Int) then [(n : Int) - p.sum] else [] from funext (cutS_last n (k + 1) (by omega)), ← ext_last]
    congr 1
    show (cutP n (k + 1) k).filter _ = _
    cases k with
    | zero => rfl
    | succ j =>
      rw [cutP_eq n (j + 1 + 1) (j + 1) (by omega) (by omega), List.filter_filter]
      apply List.filter_congr
      intro p _
      unfold feas
      by_cases c : p.sum < (n : Int)
      · rw [decide_eq_true c, decide_eq_true (show p.sum + (((j + 1 + 1 : Nat) : Int) - ((j + 1 : Nat) : Int)) ≤ (n : Int) by omega)]
        rfl
      · rw [decide_eq_false c, Bool.false_and]
theorem mem_cuts {n m : Nat} {l : List Int} : l ∈ cuts n m ↔ l.length = m ∧ (∀ x ∈ l, 1 ≤ x) ∧ l.sum = (n : Int) := by
  have mem_low : ∀ {k : Nat} {p : List Int}, k + 1 ≤ m → p.length = k → (∀ x ∈ p, 1 ≤ x) → p.sum ≤ (n : Int) → p ∈ cutL n m k := by
    intro k
    induction k with
    | zero =>
      intro p _ h _ _
      rw [List.length_eq_zero_iff.mp h]
      exact List.mem_singleton.mpr rfl
    | succ k ih =>
      intro p hm h1 h2 h3
      have hne : p ≠ [] := fun e => by
        rw [e] at h1
        cases h1
      have e := List.dropLast_concat_getLast hne
      have hs := h3
      have h2' := h2
      rw [← e] at hs h2'
      rw [List.sum_append, List.sum_singleton] at hs
      have hl : 1 ≤ p.getLast hne := h2 _ (List.getLast_mem hne)
      have hnn : 0 ≤ p.dropLast.sum := by
        have : ∀ l : List Int, (∀ x ∈ l, 1 ≤ x) → 0 ≤ l.sum := by
          intro l
          induction l with
          | nil => intro _; exact Int.le_refl 0
          | cons a r ih =>
            intro h
            have := ih fun x hx => h x (List.mem_cons_of_mem _ hx)
            have := h a List.mem_cons_self
            rw [List.sum_cons]
            omega
        exact this _ fun x hx => h2' x (List.mem_append_left _ hx)
      refine mem_ext.mpr ⟨p.dropLast, ih (by omega) (by rw [List.length_dropLast, h1]; rfl) (fun x hx => h2' x (List.mem_append_left _ hx)) (by omega), p.getLast hne, List.mem_filter.mpr ⟨mem_ran.mpr ⟨hl, by omega⟩, ?_⟩, e.symm⟩
      rw [decide_eq_true (show (k : Int) < (m : Int) - 1 by omega)]
      rfl
  unfold cuts
  by_cases h0 : m = 0
  · subst h0
    rw [if_pos rfl]
    by_cases hn : n = 0
    · subst hn
      rw [if_pos rfl, List.mem_singleton]
      constructor
      · rintro rfl
        exact ⟨rfl, fun x hx => (by cases hx), rfl⟩
      · rintro ⟨h, _⟩
        exact List.length_eq_zero_iff.mp h
    · rw [if_neg hn]
      constructor
      · intro h
        cases h
      · rintro ⟨h, _, hs⟩
        rw [List.length_eq_zero_iff.mp h] at hs
        exact absurd (show (0 : Int) = (n : Int) from hs) (by omega)
  · rw [if_neg h0]
    obtain ⟨k, rfl⟩ : ∃ k, m = k + 1 := ⟨m - 1, by omega⟩
    have e : cutL n (k + 1) (k + 1) = ext (cutS n (k + 1) (k + 1 - 1)) (cutL n (k + 1) k) := rfl
    rw [e, mem_ext]
    constructor
    · rintro ⟨p, hp, s, hs, rfl⟩
      rw [cutS_last n (k + 1) (by omega)] at hs
      obtain ⟨h1, h2, h3, _⟩ := cutL_sum_nonneg hp
      by_cases c : p.sum < (n : Int)
      · rw [if_pos c, List.mem_singleton] at hs
        subst hs
        refine ⟨by rw [List.length_append, h1]; rfl, fun x hx => ?_, by rw [List.sum_append, List.sum_singleton]; omega⟩
        rcases List.mem_append.mp hx with hx | hx
        · exact h2 x hx
        · rw [List.mem_singleton.mp hx]
          omega
      · rw [if_neg c] at hs
        cases hs
    · rintro ⟨h1, h2, h3⟩
      have hne : l ≠ [] := fun e => by
        rw [e] at h1
        cases h1
      have e := List.dropLast_concat_getLast hne
      have hl : 1 ≤ l.getLast hne := h2 _ (List.getLast_mem hne)
      have hs := h3
      have h2' := h2
      rw [← e] at hs h2'
      rw [List.sum_append, List.sum_singleton] at hs
      refine ⟨l.dropLast, mem_low (by omega) (by rw [List.length_dropLast, h1]; rfl) (fun x hx => h2' x (List.mem_append_left _ hx)) (by omega), l.getLast hne, ?_, e.symm⟩
      rw [cutS_last n (k + 1) (by omega), if_pos (by omega), List.mem_singleton]
      omega

/-! ### pieces, moved pieces -/
def pieces (t : List Nat) : Nat → List Int → List (List Nat)
  | _, [] => []
  | a, l :: r => (t.drop a).take l.toNat :: pieces t (a + l.toNat) r
def mv (ps : List (List Nat)) (b : Int) : List Nat := if 0 < b then ps.getD (b - 1).toNat [] else (ps.getD (-b - 1).toNat []).reverse
def moved (bs : List Int) (ps : List (List Nat)) : List (List Nat) := bs.map (mv ps)
def hit (t o : List Nat) (bs l : List Int) : Bool := decide ((moved bs (pieces t 0 l)).flatten = o)

theorem pieces_len (t : List Nat) : ∀ (l : List Int) (a : Nat), (pieces t a l).length = l.length
  | [], _ => rfl
  | x :: r, a => by
    show (pieces t (a + x.toNat) r).length + 1 = r.length + 1
    rw [pieces_len t r]
theorem pieces_append (t : List Nat) : ∀ (l r : List Int) (a : Nat), pieces t a (l ++ r) = pieces t a l ++ pieces t (a + (l.map Int.toNat).sum) r
  | [], r, a => by
    show pieces t a r = pieces t (a + 0) r
    rw [Nat.add_zero]
  | x :: l, r, a => by
    show (t.drop a).take x.toNat :: pieces t (a + x.toNat) (l ++ r) = (t.drop a).take x.toNat :: (pieces t (a + x.toNat) l ++ pieces t (a + ((x :: l).map Int.toNat).sum) r)
    rw [pieces_append t l r, List.map_cons, List.sum_cons, Nat.add_assoc]
theorem pieces_merge (t : List Nat) (a : Nat) (x y : Int) (hx : 0 ≤ x) (hy : 0 ≤ y) (r : List Int) :
    ∃ p q R, pieces t a (x :: y :: r) = p :: q :: R ∧ pieces t a ((x + y) :: r) = (p ++ q) :: R := by
  refine ⟨(t.drop a).take x.toNat, (t.drop (a + x.toNat)).take y.toNat, pieces t (a + x.toNat + y.toNat) r, rfl, ?_⟩
  show (t.drop a).take (x + y).toNat :: pieces t (a + (x + y).toNat) r = _
  have e : (x + y).toNat = x.toNat + y.toNat := by omega
  rw [e, List.take_add, List.drop_drop, Nat.add_assoc]
/-- the piece number P swallows the next one -/
def gP (P : Int) (b : Int) : Int := if P < b then b - 1 else if b < -P then b + 1 else b
theorem getD_lo {α : Type} {A B : List α} {d : α} {i : Nat} (h : i < A.length) : (A ++ B).getD i d = A.getD i d := by
  rw [List.getD_eq_getElem?_getD, List.getD_eq_getElem?_getD, List.getElem?_append_left h]
theorem getD_hi {α : Type} {A B : List α} {d : α} {i : Nat} (h : A.length ≤ i) : (A ++ B).getD i d = B.getD (i - A.length) d := by
  rw [List.getD_eq_getElem?_getD, List.getD_eq_getElem?_getD, List.getElem?_append_right h]
theorem getD_skip {A R : List (List Nat)} {p q : List Nat} {i : Nat} (h1 : i ≠ A.length) (h2 : i ≠ A.length + 1) :
    (A ++ (p ++ q) :: R).getD (if A.length < i then i - 1 else i) [] = (A ++ p :: q :: R).getD i [] := by
  by_cases c : i < A.length
  · rw [if_neg (by omega), getD_lo c, getD_lo c]
  · rw [if_pos (by omega), getD_hi (show A.length ≤ i - 1 by omega), getD_hi (show A.length ≤ i by omega)]
    obtain ⟨d, hd⟩ : ∃ d, i = A.length + (d + 2) := ⟨i - A.length - 2, by omega⟩
    subst hd
    rw [show A.length + (d + 2) - 1 - A.length = d + 1 by omega, show A.length + (d + 2) - A.length = d + 2 by omega]
    rfl
theorem mv_other {A R : List (List Nat)} {p q : List Nat} {b : Int} (h0 : b ≠ 0) (h1 : Apart ((A.length : Int) + 1) b) (h2 : Apart ((A.length : Int) + 2) b) :
    mv (A ++ (p ++ q) :: R) (gP ((A.length : Int) + 1) b) = mv (A ++ p :: q :: R) b := by
  obtain ⟨a1, a2⟩ := h1
  obtain ⟨b1, b2⟩ := h2
  unfold mv gP
  by_cases c : 0 < b
  · have k := getD_skip (A := A) (R := R) (p := p) (q := q) (i := (b - 1).toNat) (by omega) (by omega)
    rw [if_pos c, ← k]
    by_cases d : (A.length : Int) + 1 < b
    · rw [if_pos d, if_pos (show 0 < b - 1 by omega), if_pos (show A.length < (b - 1).toNat by omega)]
      congr 1
      omega
    · rw [if_neg d, if_neg (show ¬ b < -((A.length : Int) + 1) by omega), if_pos c, if_neg (show ¬ A.length < (b - 1).toNat by omega)]
  · have k := getD_skip (A := A) (R := R) (p := p) (q := q) (i := (-b - 1).toNat) (by omega) (by omega)
    rw [if_neg c, ← k, if_neg (show ¬ (A.length : Int) + 1 < b by omega)]
    by_cases d : b < -((A.length : Int) + 1)
    · rw [if_pos d, if_neg (show ¬ 0 < b + 1 by omega), if_pos (show A.length < (-b - 1).toNat by omega)]
      congr 2
      omega
    · rw [if_neg d, if_neg c, if_neg (show ¬ A.length < (-b - 1).toNat by omega)]
theorem mv_two {A R : List (List Nat)} {p q : List Nat} {x : Int} (h : x = (A.length : Int) + 1 ∨ x = -((A.length : Int) + 2)) :
    mv (A ++ (p ++ q) :: R) (gP ((A.length : Int) + 1) x) = mv (A ++ p :: q :: R) x ++ mv (A ++ p :: q :: R) (x + 1) := by
  have g0 : ∀ (u : List Nat) (S : List (List Nat)), (A ++ u :: S).getD A.length [] = u := fun u S => by
    rw [getD_hi (Nat.le_refl _), Nat.sub_self]
    rfl
  have g1 : (A ++ p :: q :: R).getD (A.length + 1) [] = q := by
    rw [getD_hi (Nat.le_succ _), show A.length + 1 - A.length = 1 by omega]
    rfl
  rcases h with h | h
  · have e : gP ((A.length : Int) + 1) x = x := by
      unfold gP
      rw [if_neg (by omega), if_neg (by omega)]
    rw [e]
    unfold mv
    rw [if_pos (show 0 < x by omega), if_pos (show 0 < x by omega), if_pos (show 0 < x + 1 by omega), show (x - 1).toNat = A.length by omega, show (x + 1 - 1).toNat = A.length + 1 by omega, g0, g0, g1]
  · have e : gP ((A.length : Int) + 1) x = x + 1 := by
      unfold gP
      rw [if_neg (by omega), if_pos (by omega)]
    rw [e]
    unfold mv
    rw [if_neg (show ¬ 0 < x + 1 by omega), if_neg (show ¬ 0 < x by omega), if_neg (show ¬ 0 < x + 1 by omega), show (-(x + 1) - 1).toNat = A.length by omega, show (-x - 1).toNat = A.length + 1 by omega, g0, g0, g1, List.reverse_append]
theorem not_lean : ∀ {o : List Int}, lean o = false → ∃ A x B, o = A ++ x :: (x + 1) :: B
  | [], h => by cases h
  | [a], h => by cases h
  | a :: b :: r, h => by
    by_cases c : b = a + 1
    · subst c
      exact ⟨[], a, r, rfl⟩
    · have h' : lean (b :: r) = false := by
        have h2 : (decide (b ≠ a + 1) && lean (b :: r)) = false := h
        rw [decide_eq_true c, Bool.true_and] at h2
        exact h2
      obtain ⟨A, x, B, e⟩ := not_lean h'
      exact ⟨a :: A, x, B, by rw [e]; rfl⟩
theorem split_at {l : List Int} {i : Nat} (h : i + 1 < l.length) : ∃ L1 x y L2, l = L1 ++ x :: y :: L2 ∧ L1.length = i := by
  refine ⟨l.take i, l[i], l[i + 1], l.drop (i + 2), ?_, by rw [List.length_take]; omega⟩
  have e1 : l.drop i = l[i] :: l.drop (i + 1) := List.drop_eq_getElem_cons (by omega)
  have e2 : l.drop (i + 1) = l[i + 1] :: l.drop (i + 2) := List.drop_eq_getElem_cons h
  rw [← e2, ← e1, List.take_append_drop]
/-- an order that is not lean can do with one piece fewer -/
theorem merge {n m : Nat} {s : Bool} {t o : List Nat} {bs l : List Int} (hb : bs ∈ ordL m s m) (hl : l ∈ cuts n m) (hh : hit t o bs l = true) (nl : lean bs = false) :
    ∃ bs' ∈ ordL (m - 1) s (m - 1), ∃ l' ∈ cuts n (m - 1), hit t o bs' l' = true ∧ 1 ≤ m := by
  obtain ⟨A, x, B, rfl⟩ := not_lean nl
  obtain ⟨k1, k2, k3⟩ := mem_ordL.mp hb
  obtain ⟨c1, c2, c3⟩ := mem_cuts.mp hl
  have k1' : A.length + (B.length + 1 + 1) = m := by
    rw [List.length_append, List.length_cons, List.length_cons] at k1
    exact k1
  obtain ⟨x0, xlo, xhi, xs⟩ := k2 x (List.mem_append_right _ List.mem_cons_self)
  obtain ⟨y0, ylo, yhi, ys⟩ := k2 (x + 1) (List.mem_append_right _ (List.mem_cons_of_mem _ List.mem_cons_self))
  -- the number of the lower piece of the two
  obtain ⟨P, hP⟩ : ∃ P : Nat, x = (P : Int) + 1 ∨ x = -((P : Int) + 2) := by
    by_cases c : 0 < x
    · exact ⟨(x - 1).toNat, .inl (by omega)⟩
    · exact ⟨(-x - 2).toNat, .inr (by omega)⟩
  obtain ⟨L1, u, v, L2, rfl, hL1⟩ := split_at (l := l) (i := P) (by omega)
  have hu : 1 ≤ u := c2 u (List.mem_append_right _ List.mem_cons_self)
  have hv : 1 ≤ v := c2 v (List.mem_append_right _ (List.mem_cons_of_mem _ List.mem_cons_self))
  -- all others stand apart from the two
  rw [List.pairwise_append] at k3
  obtain ⟨pA, pB, pAB⟩ := k3
  rw [List.pairwise_cons] at pB
  obtain ⟨px, pB⟩ := pB
  rw [List.pairwise_cons] at pB
  obtain ⟨py, pB⟩ := pB
  have apx : ∀ b, b ∈ A ∨ b ∈ B → Apart x b ∧ Apart (x + 1) b ∧ Entry m s b := by
    rintro b (h | h)
    · have h1 := pAB b h x List.mem_cons_self
      have h2 := pAB b h (x + 1) (List.mem_cons_of_mem _ List.mem_cons_self)
      exact ⟨⟨fun e => h1.1 e.symm, fun e => h1.2 (by omega)⟩, ⟨fun e => h2.1 e.symm, fun e => h2.2 (by omega)⟩, k2 b (List.mem_append_left _ h)⟩
    · exact ⟨px b (List.mem_cons_of_mem _ h), py b h, k2 b (List.mem_append_right _ (List.mem_cons_of_mem _ (List.mem_cons_of_mem _ h)))⟩
  have g_apart : ∀ a b, (a ≠ x + 1 ∧ a ≠ -(x + 1)) → (b ≠ x + 1 ∧ b ≠ -(x + 1)) → Apart a b → Apart (gP ((P : Int) + 1) a) (gP ((P : Int) + 1) b) := by
    rintro a b ⟨h1, h2⟩ ⟨h3, h4⟩ ⟨h5, h6⟩
    unfold gP Apart
    constructor <;> (split <;> split <;> (try split) <;> (try split) <;> omega)
  have g_entry : ∀ b, (b ≠ x + 1 ∧ b ≠ -(x + 1)) → Entry m s b → Entry (m - 1) s (gP ((P : Int) + 1) b) := by
    rintro b ⟨h1, h2⟩ ⟨e1, e2, e3, e4⟩
    unfold gP Entry
    refine ⟨?_, ?_, ?_, ?_⟩
    · split <;> (try split) <;> omega
    · split <;> (try split) <;> omega
    · split <;> (try split) <;> omega
    · rcases e4 with e4 | e4
      · exact .inl e4
      · exact .inr (by split <;> (try split) <;> omega)
  have nx : x ≠ x + 1 ∧ x ≠ -(x + 1) := by omega
  have nb : ∀ b, b ∈ A ∨ b ∈ B → b ≠ x + 1 ∧ b ≠ -(x + 1) := fun b h => by
    obtain ⟨_, ⟨z1, z2⟩, _⟩ := apx b h
    omega
  refine ⟨A.map (gP ((P : Int) + 1)) ++ gP ((P : Int) + 1) x :: B.map (gP ((P : Int) + 1)), mem_ordL.mpr ⟨?_, ?_, ?_⟩, L1 ++ (u + v) :: L2, mem_cuts.mpr ⟨?_, ?_, ?_⟩, ?_, by omega⟩
  · rw [List.length_append, List.length_map, List.length_cons, List.length_map]
    omega
  · intro b h
    rcases List.mem_append.mp h with h | h
    · obtain ⟨a, ha, rfl⟩ := List.mem_map.mp h
      exact g_entry a (nb a (.inl ha)) (apx a (.inl ha)).2.2
    · rcases List.mem_cons.mp h with rfl | h
      · exact g_entry x nx ⟨x0, xlo, xhi, xs⟩
      · obtain ⟨a, ha, rfl⟩ := List.mem_map.mp h
        exact g_entry a (nb a (.inr ha)) (apx a (.inr ha)).2.2
  · rw [List.pairwise_append, List.pairwise_map, List.pairwise_cons, List.pairwise_map]
    refine ⟨pA.imp_of_mem fun {a b} ha hb' z => g_apart a b (nb a (.inl ha)) (nb b (.inl hb')) z, ⟨fun b h => ?_, pB.imp_of_mem fun {a b} ha hb' z => g_apart a b (nb a (.inr ha)) (nb b (.inr hb')) z⟩, fun a h b h' => ?_⟩
    · obtain ⟨c, hc, rfl⟩ := List.mem_map.mp h
      exact g_apart x c nx (nb c (.inr hc)) (apx c (.inr hc)).1
    · obtain ⟨c, hc, rfl⟩ := List.mem_map.mp h
      rcases List.mem_cons.mp h' with rfl | h'
      · exact g_apart c x (nb c (.inl hc)) nx (pAB c hc x List.mem_cons_self)
      · obtain ⟨d, hd, rfl⟩ := List.mem_map.mp h'
        exact g_apart c d (nb c (.inl hc)) (nb d (.inr hd)) (pAB c hc d (List.mem_cons_of_mem _ (List.mem_cons_of_mem _ hd)))
  · rw [List.length_append, List.length_cons, List.length_cons] at c1
    rw [List.length_append, List.length_cons]
    omega
  · intro z hz
    rcases List.mem_append.mp hz with hz | hz
    · exact c2 z (List.mem_append_left _ hz)
    · rcases List.mem_cons.mp hz with rfl | hz
      · omega
      · exact c2 z (List.mem_append_right _ (List.mem_cons_of_mem _ (List.mem_cons_of_mem _ hz)))
  · rw [List.sum_append, List.sum_cons, List.sum_cons] at c3
    rw [List.sum_append, List.sum_cons]
    omega
  · have hh' := of_decide_eq_true hh
    refine decide_eq_true ?_
    rw [← hh']
    obtain ⟨p, q, R, e1, e2⟩ := pieces_merge t (0 + (L1.map Int.toNat).sum) u v (by omega) (by omega) L2
    rw [pieces_append, pieces_append, e1, e2]
    have hlen : (pieces t 0 L1).length = P := (pieces_len t L1 0).trans hL1
    have two := mv_two (A := pieces t 0 L1) (R := R) (p := p) (q := q) (x := x) (by rw [hlen]; exact hP)
    rw [hlen] at two
    have oth : ∀ b, b ∈ A ∨ b ∈ B → mv (pieces t 0 L1 ++ (p ++ q) :: R) (gP ((P : Int) + 1) b) = mv (pieces t 0 L1 ++ p :: q :: R) b := fun b h => by
      obtain ⟨⟨z1, z2⟩, ⟨z3, z4⟩, z5, _⟩ := apx b h
      have w := mv_other (A := pieces t 0 L1) (R := R) (p := p) (q := q) (b := b) z5 (by rw [hlen]; unfold Apart; omega) (by rw [hlen]; unfold Apart; omega)
      rw [hlen] at w
      exact w
    unfold moved
    simp only [List.map_append, List.map_cons, List.map_map, List.flatten_append, List.flatten_cons]
    rw [two, List.append_assoc]
    congr 2
    · apply List.map_congr_left
      intro b hb'
      exact oth b (.inl hb')
    · congr 2
      apply List.map_congr_left
      intro b hb'
      exact oth b (.inr hb')

/-! ### the two searches -/
abbrev Ans := List Int × List Int
def pick (t o : List Nat) (cs : List (List Int)) (bs : List Int) : Option Ans := (cs.find? (hit t o bs)).map fun l => (bs, l)
def firstO (t o : List Nat) (cs : List (List Int)) (os : List (List Int)) : Option Ans := os.findSome? (pick t o cs)
/-- the law's search behind its first test -/
def firstL (s : Bool) (t o : List Nat) : Option Ans := (List.range (t.length + 1)).findSome? fun m => firstO t o (cuts t.length m) (ordL m s m)
/-- the program's -/
def firstP (s : Bool) (t o : List Nat) : Option Ans := (List.range (t.length + 1)).findSome? fun m => firstO t o (cutsP t.length m) (leanL m s m)

theorem pick_none {t o : List Nat} {cs : List (List Int)} {bs : List Int} : pick t o cs bs = none ↔ ∀ l ∈ cs, hit t o bs l = false := by
  unfold pick
  rw [Option.map_eq_none_iff, List.find?_eq_none]
  constructor
  · intro h l hl
    have := h l hl
    cases e : hit t o bs l with
    | true => exact absurd e this
    | false => rfl
  · intro h l hl
    rw [h l hl]
    exact Bool.false_ne_true
theorem findSome_filter {α β : Type} (f : α → Option β) (p : α → Bool) : ∀ (L : List α), (∀ x ∈ L, f x ≠ none → p x = true) → (L.filter p).findSome? f = L.findSome? f
  | [], _ => rfl
  | x :: L, h => by
    have ih := findSome_filter f p L fun y hy => h y (List.mem_cons_of_mem _ hy)
    rw [List.filter_cons]
    by_cases c : p x = true
    · rw [if_pos c, List.findSome?_cons, List.findSome?_cons, ih]
    · rw [if_neg c, List.findSome?_cons, ih]
      cases e : f x with
      | none => rfl
      | some y => exact absurd (h x List.mem_cons_self (by rw [e]; exact fun z => by cases z)) c
theorem firstO_none {t o : List Nat} {cs os : List (List Int)} (h : firstO t o cs os = none) : ∀ bs ∈ os, ∀ l ∈ cs, hit t o bs l = false := fun bs hb => pick_none.mp (List.findSome?_eq_none_iff.mp h bs hb)
theorem step_same {s : Bool} {t o : List Nat} {m : Nat} (h : ∀ k, k < m → firstO t o (cuts t.length k) (ordL k s k) = none) :
    firstO t o (cutsP t.length m) (leanL m s m) = firstO t o (cuts t.length m) (ordL m s m) := by
  rw [cuts_same, leanL_eq]
  unfold firstO
  refine findSome_filter _ _ _ fun bs hb hne => ?_
  cases e : lean bs with
  | true => rfl
  | false =>
    refine absurd (pick_none.mpr fun l hl => ?_) hne
    cases e2 : hit t o bs l with
    | false => rfl
    | true =>
      obtain ⟨bs', hb', l', hl', hh, h1⟩ := merge hb hl e2 e
      have := firstO_none (h (m - 1) (by omega)) bs' hb' l' hl'
      rw [hh] at this
      cases this
theorem first_same (s : Bool) (t o : List Nat) : firstP s t o = firstL s t o := by
  have key : ∀ N, ((List.range N).findSome? fun m => firstO t o (cutsP t.length m) (leanL m s m)) = (List.range N).findSome? fun m => firstO t o (cuts t.length m) (ordL m s m) := by
    intro N
    induction N with
    | zero => rfl
    | succ N ih =>
      rw [List.range_succ, List.findSome?_append, List.findSome?_append, ih]
      cases e : (List.range N).findSome? fun m => firstO t o (cuts t.length m) (ordL m s m) with
      | some y => rfl
      | none =>
        rw [List.findSome?_singleton, List.findSome?_singleton, step_same fun k hk => List.findSome?_eq_none_iff.mp e k (List.mem_range.mpr hk)]
  exact key _

/-! ### how many they are -/
theorem nodup_le : ∀ {l l' : List Int}, l.Nodup → (∀ x ∈ l, x ∈ l') → l.length ≤ l'.length
  | [], _, _, _ => Nat.zero_le _
  | a :: l, l', hn, hs => by
    rw [List.nodup_cons] at hn
    have ha := hs a List.mem_cons_self
    have ih := nodup_le (l := l) (l' := l'.erase a) hn.2 fun x hx => (List.mem_erase_of_ne (fun e : x = a => hn.1 (by rw [← e]; exact hx))).mpr (hs x (List.mem_cons_of_mem _ hx))
    rw [List.length_erase_of_mem ha] at ih
    have : 0 < l'.length := List.length_pos_of_mem ha
    show l.length + 1 ≤ _
    omega
theorem ran_nodup (lo : Int) (n : Nat) : (ran lo n).Nodup := by
  unfold ran
  rw [List.nodup_iff_pairwise_ne, List.pairwise_map]
  exact (List.nodup_iff_pairwise_ne.mp List.nodup_range).imp fun {a b} h e => h (by omega)
theorem ordS_len {m : Nat} {s : Bool} {k : Nat} {o : List Int} (h : o ∈ ordL m s k) : (ordS m s o).length ≤ 2 * (m - k) := by
  obtain ⟨h1, h2, h3⟩ := mem_ordL.mp h
  have nd : ((ordS m s o) ++ (o ++ o.map fun b => -b) ++ [0]).Nodup := by
    have n1 : (ordS m s o).Nodup := (ran_nodup _ _).filter _
    have n2 : o.Nodup := List.nodup_iff_pairwise_ne.mpr (h3.imp fun {a b} z => z.1)
    have n3 : (o.map fun b => -b).Nodup := by
      rw [List.nodup_iff_pairwise_ne, List.pairwise_map]
      exact h3.imp fun {a b} z e => z.1 (by omega)
    rw [List.nodup_append, List.nodup_append, List.nodup_append]
    refine ⟨⟨n1, ⟨n2, n3, fun a ha b hb e => ?_⟩, fun a ha b hb e => ?_⟩, List.nodup_cons.mpr ⟨by simp, List.nodup_nil⟩, fun a ha b hb e => ?_⟩
    · subst e
      obtain ⟨c, hc, e⟩ := List.mem_map.mp hb
      have hc' : c = -a := by omega
      subst hc'
      have ea := h2 a ha
      -- a and -a both in o: they are not apart
      have : ∀ {l : List Int}, l.Pairwise Apart → a ∈ l → -a ∈ l → a ≠ 0 → False := by
        intro l
        induction l with
        | nil => intro _ h; cases h
        | cons x r ih =>
          intro hp h1 h2 h0
          rw [List.pairwise_cons] at hp
          rcases List.mem_cons.mp h1 with e1 | h1
          · rcases List.mem_cons.mp h2 with e2 | h2
            · omega
            · have := (hp.1 _ h2).2
              omega
          · rcases List.mem_cons.mp h2 with e2 | h2
            · have := (hp.1 _ h1).2
              omega
            · exact ih hp.2 h1 h2 h0
      exact this h3 ha hc ea.1
    · subst e
      obtain ⟨_, h5⟩ := mem_ordS.mp ha
      rcases List.mem_append.mp hb with hb | hb
      · exact (h5 a hb).1 rfl
      · obtain ⟨c, hc, e⟩ := List.mem_map.mp hb
        exact (h5 c hc).2 (by omega)
    · subst e
      have e0 := List.mem_singleton.mp hb
      rcases List.mem_append.mp ha with ha | ha
      · exact (mem_ordS.mp ha).1.1 e0
      · rcases List.mem_append.mp ha with ha | ha
        · exact (h2 a ha).1 e0
        · obtain ⟨c, hc, e⟩ := List.mem_map.mp ha
          exact (h2 c hc).1 (by omega)
  have sub : ∀ x ∈ (ordS m s o) ++ (o ++ o.map fun b => -b) ++ [0], x ∈ ran (-(m : Int)) (2 * m + 1) := by
    intro x hx
    rw [mem_ran]
    rcases List.mem_append.mp hx with hx | hx
    · rcases List.mem_append.mp hx with hx | hx
      · have := (mem_ordS.mp hx).1
        unfold Entry at this
        omega
      · rcases List.mem_append.mp hx with hx | hx
        · have := h2 x hx
          unfold Entry at this
          omega
        · obtain ⟨c, hc, e⟩ := List.mem_map.mp hx
          have := h2 c hc
          unfold Entry at this
          omega
    · rw [List.mem_singleton.mp hx]
      omega
  have := nodup_le nd sub
  rw [ran_len, List.length_append, List.length_append, List.length_append, List.length_map, h1] at this
  simp only [List.length_cons, List.length_nil] at this
  omega
def manyO (m : Nat) : Nat → Nat
  | 0 => 1
  | k + 1 => manyO m k * (2 * (m - k))
theorem ordL_le (m : Nat) (s : Bool) : ∀ k, (ordL m s k).length ≤ manyO m k
  | 0 => Nat.le_refl 1
  | k + 1 => Nat.le_trans (ext_len _ fun p hp => ordS_len hp) (Nat.mul_le_mul_right _ (ordL_le m s k))
theorem manyO_small : ∀ m, m < 9 → ∀ k, k < 10 → manyO m k ≤ 10321920 := by decide
theorem ordL_small {m k : Nat} (s : Bool) (hm : m ≤ 8) (hk : k ≤ m) : (ordL m s k).length ≤ 10321920 := Nat.le_trans (ordL_le m s k) (manyO_small m (by omega) k (by omega))
theorem leanL_small {m k : Nat} (s : Bool) (hm : m ≤ 8) (hk : k ≤ m) : (leanL m s k).length ≤ 10321920 := by
  rw [leanL_eq]
  exact Nat.le_trans (List.length_filter_le _ _) (ordL_small s hm hk)
theorem cutS_len {n m k : Nat} {p : List Int} (hp : 0 ≤ p.sum) : (cutS n m k p).length ≤ n := by
  refine Nat.le_trans (List.length_filter_le _ _) ?_
  rw [ran_len]
  omega
theorem cutL_le (n m : Nat) : ∀ k, (cutL n m k).length ≤ n ^ k
  | 0 => Nat.le_refl 1
  | k + 1 => by
    rw [Nat.pow_succ]
    refine Nat.le_trans (ext_len _ fun p hp => cutS_len (?_)) (Nat.mul_le_mul_right _ (cutL_le n m k))
    have := (cutL_sum_nonneg hp).2.2.1
    omega
theorem cutL_low {n m k : Nat} (hn : n ≤ 8) (hk : k ≤ 7) : (cutL n m k).length ≤ 2097152 :=
  Nat.le_trans (cutL_le n m k) (Nat.le_trans (Nat.pow_le_pow_left hn k) (Nat.pow_le_pow_right (by omega) hk))
theorem cutL_small {n m k : Nat} (hn : n ≤ 8) (hm : m ≤ 8) (hk : k ≤ m) : (cutL n m k).length ≤ 2097152 := by
  by_cases c : k ≤ 7
  · exact cutL_low hn c
  · obtain rfl : k = 8 := by omega
    obtain rfl : m = 8 := by omega
    have e : cutL n 8 8 = ext (cutS n 8 (8 - 1)) (cutL n 8 7) := rfl
    rw [e]
    have h1 : (ext (cutS n 8 (8 - 1)) (cutL n 8 7)).length ≤ (cutL n 8 7).length * 1 := ext_len _ fun p _ => by
      rw [cutS_last n 8 (by omega)]
      split
      · exact Nat.le_refl 1
      · exact Nat.zero_le _
    rw [Nat.mul_one] at h1
    exact Nat.le_trans h1 (cutL_low hn (by omega))
theorem cuts_small {n m : Nat} (hn : n ≤ 8) (hm : m ≤ 8) : (cuts n m).length ≤ 2097152 := by
  unfold cuts
  split
  · split
    · exact (by decide : 1 ≤ 2097152)
    · exact Nat.zero_le _
  · exact cutL_small hn hm (Nat.le_refl m)
theorem cutP_small {n m k : Nat} (hn : n ≤ 8) (hm : m ≤ 8) (hk : k + 1 ≤ m) : (cutP n m k).length ≤ 2097152 := by
  by_cases c : 1 ≤ k
  · rw [cutP_eq n m k c hk]
    exact Nat.le_trans (List.length_filter_le _ _) (cutL_small hn hm (by omega))
  · obtain rfl : k = 0 := by omega
    exact (by decide : 1 ≤ 2097152)
/-- there is a cutting -/
theorem cuts_pos {n m : Nat} (h1 : 1 ≤ m) (h2 : m ≤ n) : 0 < (cuts n m).length := by
  have : (List.replicate (m - 1) (1 : Int) ++ [(n : Int) - ((m - 1 : Nat) : Int)]) ∈ cuts n m := by
    rw [mem_cuts]
    refine ⟨?_, ?_, ?_⟩
    · rw [List.length_append, List.length_replicate]
      show m - 1 + 1 = m
      omega
    · intro x hx
      rcases List.mem_append.mp hx with hx | hx
      · rw [List.eq_of_mem_replicate hx]
        exact Int.le_refl 1
      · rw [List.mem_singleton.mp hx]
        omega
    · rw [List.sum_append, List.sum_singleton, List.sum_replicate_int]
      omega
  exact List.length_pos_of_mem this
end TW

set_option Elab.async false
set_option linter.all false
set_option maxRecDepth 100000
set_option maxHeartbeats 4000000
/-! Rules of our own, by values: what the layer lacks for this program. -/
namespace TW
open PySem PySem.Spec PyProof.Rows L2

/-! ### sorted(a text): a new list of its signs, each a text, in rising order -/
def sgs (z : Str) : List Str := z.cps.toList.map fun c => ⟨#[c]⟩
section
variable {X : Cx}
theorem cr_sortedTx (hc : X.calm = true) : CallR X (.builtin "sorted") (fun xs H Q => ∃ z : Str, xs = [.str z] ∧ z.length < 64 ∧
    ∀ (ys : List Str) (p : Addr), ys.Perm (sgs z) → sortedS ys = true → H p = none → Q (.ref p) (upd H p (.lst (ys.map V.str)))) := by
  intro pins s σ H xs us Q I r hq
  obtain ⟨z, rfl, hz, q⟩ := hq
  obtain ⟨u, rfl, t, rfl⟩ := vals1 r
  have hz' : z.cps.size < 64 := hz
  refine Calls.call_function_entry PyProof.Rows.kind_sorted PyProof.Rows.plain_sorted PyProof.Rows.entry_sorted (PyProof.Rows.args_sorted1 _) ?_
  unfold Builtin.«sorted»
  refine wpAny_bind (m := checkCount "sorted" 1 1 _) (wpAny_pure ?_)
  refine wpAny_bind (wpAny_collect_str (show X.A.in1.handled = none from I.ok.hd hc) z t (hn := by rw [sizeLine_eq]; omega) fun s' acc hk hg hd ho hit => ?_)
  obtain ⟨h', g', d', tk, o'⟩ := s'
  dsimp only at hk hg hd ho
  subst hg hd ho
  have hal : acc.toList.length = z.cps.size := by rw [Array.length_toList, hit.1]
  have hS : StrsAre acc.toList (sgs z) := strs_at (by rw [hal]; unfold sgs; rw [List.length_map, Array.length_toList]) fun j v e => by
    obtain ⟨c, w', e1, e2⟩ := hit.2 j v (by rw [← Array.getElem?_toList]; exact e)
    refine ⟨⟨#[c]⟩, w', ?_, e2⟩
    unfold sgs
    rw [List.getElem?_map, Array.getElem?_toList, e1]
    rfl
  have I1 : Inv X pins σ H { s with heap := h', toks := tk } := I.kept hk
  refine wpAny_bind (wpAny_newList ?_ (by rw [hal, sizeLine_eq]; omega))
  have hoL : (h'.push (seqObj "list" acc.toList.toArray 0)).get? h'.objs.size = some (seqObj "list" acc.toList.toArray 0) := Heap.get?_push_size _ rfl
  refine wpAny_bind (wpAny_holding (wpAny_call_entry PyProof.Rows.slot_list_sort ⟨_, hoL, rfl⟩ PyProof.Rows.entry_list_sort
    (list_sort_treeK strKind_oneLt hoL hS.keysOf (fun v₁ v₂ rest e => keyKind_strs (by rw [← e]; exact hS)) (by rw [hal]; exact hz') fun st' hp hs => ⟨_, rfl, ?_⟩) (PyProof.Rows.args_list_sort _)))
  obtain ⟨ys, g1, g2, g3⟩ := sorted_out_str hS hp hs
  obtain ⟨e', he'⟩ := PyProof.Rows.sortedHeap_at (vs := acc.toList) (out := (arrOf st').map (·.2)) hoL
  have hlen : (ys.map V.str).length ≤ sizeLine := by
    rw [List.length_map, g2.length_eq, sizeLine_eq]
    unfold sgs
    rw [List.length_map, Array.length_toList]
    omega
  refine wpAny_pure ⟨_, rfl, V.ref h'.objs.size, upd H h'.objs.size (.lst (ys.map V.str)), I1.laid (t' := tk) (fun b u e => ?_) (Nat.le_refl _)
    (show ObjOk X.prog X.w _ _ _ (.lst (ys.map V.str)) from ⟨hlen, ((arrOf st').map (·.2)).toList, e', vals_of_strs g1, by rw [Array.toArray_toList]; exact he'⟩), rfl, q ys _ g2 g3 (I1.hok.fresh (Nat.le_refl _))⟩
  have hb : b < h'.objs.size := Heap.lt_size e
  rw [PyProof.Rows.sortedHeap_old (Nat.ne_of_lt hb) (by rw [size_push']; exact Nat.lt_succ_of_lt hb)]
  exact Heap.get?_push_of_some _ e

/-! ### sum(a tuple of ints) -/
abbrev rSumT (K : PySem.W.Frag) : List V → Hp → VK → Prop := fun xs H Q => ∃ (a : Addr) (ns : List Int), xs = [.ref a] ∧ SqT K H a (ns.map V.int) ∧ Q (.int ns.sum) H
theorem cr_sumT (hc : X.calm = true) : CallR X (.builtin "sum") (rSumT X.K) := by
  intro pins s σ H xs us Q I r hq
  obtain ⟨a, ns, rfl, hs, q⟩ := hq
  obtain ⟨u, rfl, ru⟩ := vals1 r
  obtain rfl : u = Value.ref a := ru
  obtain ⟨its, rv, ht, hz⟩ := I.tuple hs
  have hi := rv.ints
  have hlen : its.length = ns.length := by rw [← rv.length, List.length_map]
  have hT : s.heap.IsTuple a its.toArray := ht
  refine call_sum_walkG ?_
  refine wpAny_pyIter_tuple hT ?_
  have hne : a ≠ s.heap.objs.size := Nat.ne_of_lt ht.lt
  refine ⟨s.heap.objs.size, _, _, _, _, _, fun i => ns.getD i 0, rfl, Walks.tuple (A := X.A.in1) (I.ok.hd hc) s.heap.objs.size a hne its.toArray, ⟨⟨_, Heap.get?_push_size _ rfl, rfl, rfl⟩, ?_⟩, fun b hb => ?_, fun i v hv => ?_, fun h' tk t' hk => ?_⟩
  · exact hT.at fun o e => Heap.get?_push_of_some _ e
  · show b < (s.heap.push _).objs.size
    rw [Heap.size_push]
    rcases List.mem_cons.mp hb with rfl | hb
    · exact Nat.lt_succ_self _
    · rw [List.mem_singleton.mp hb]
      exact Nat.lt_succ_of_lt ht.lt
  · have hv' : its[i]? = some v := by rw [← hv]; simp
    obtain ⟨x, hx, rx⟩ : ∃ x, (ns.map V.int)[i]? = some x ∧ RelV x v := by
      cases e : (ns.map V.int)[i]? with
      | none =>
        rw [rv.none_of e] at hv'
        cases hv'
      | some x =>
        obtain ⟨u2, e2, r2⟩ := rv.get e
        rw [hv'] at e2
        cases e2
        exact ⟨x, rfl, r2⟩
    rw [List.getElem?_map] at hx
    cases e : ns[i]? with
    | none =>
      rw [e] at hx
      cases hx
    | some n =>
      rw [e] at hx
      have ex : V.int n = x := Option.some.inj hx
      subst ex
      obtain ⟨t, rfl⟩ := rx
      refine ⟨t, ?_⟩
      show Value.int n t = Value.int (ns.getD i 0) t
      rw [List.getD_eq_getElem?_getD, e]
      rfl
  · have hsz : its.toArray.size = ns.length := by rw [List.size_toArray, hlen]
    rw [hsz, preSum_getD, List.take_of_length_le (Nat.le_refl _)]
    refine ⟨.int ns.sum, H, ?_, ⟨_, rfl⟩, q⟩
    refine I.kept (h' := h') (t' := tk) fun b o e => hk b o (fun hb => ?_) (Heap.get?_push_of_some _ e)
    rw [List.mem_singleton.mp hb] at e
    exact absurd (Heap.lt_size e) (Nat.lt_irrefl _)

/-! ### z[::-1], z a text -/
def tRevS (te : TE) : TE := fun σ H Q => te σ H fun x H1 => ∃ z : Str, x = .str z ∧ z.length ≤ sizeLine ∧ Q (.str ⟨z.cps.toList.reverse.toArray⟩) H1
theorem rev_pick (z : Str) : ((Builtin.Str.strSliceIndices none none (-1) z.length).filterMap (z.cps[·]?)) = z.cps.toList.reverse := by
  have e : Builtin.Str.strSliceIndices none none (-1) z.length = (List.range z.cps.size).reverse := by
    show sliceRange ((z.cps.size : Int) - 1) (-1) (-1) = _
    rw [PySem.W.krv_sliceRange, PySem.W.krv_range]
  rw [e, List.filterMap_reverse, PySem.W.krv_all]
theorem pe_revT {e : Expr} {te : TE} {k : Nat} {p1 p2 p3 pos : Pos} (he : PE X e te) : PE X (.Subscript e (.Slice none none (some (.UnaryOp .USub (.Constant (.int 1) k p1) p2)) p3) pos) (tRevS te) := by
  refine ⟨fun pins s σ H Q I h => ?_⟩
  refine Subscript_ (thn (he.run pins s σ H _ I h) fun v s1 ⟨x, H1, I1, r1, z, ex, hz, q⟩ => ?_)
  subst ex
  obtain ⟨t, rfl⟩ := r1
  have hst : PO X (some (.UnaryOp .USub (.Constant (.int 1) k p1) p2)) (tPart (tUn (rU fun i => .int (-i)) (tC (.int 1)))) := po_some (pe_un un_neg pe_int)
  refine wpAny_Slice (thn (po_none.run pins s1 σ H1 (fun o H2 => o = none ∧ H2 = H1) I1 ⟨rfl, rfl⟩) fun vl s2 ⟨l, H2, I2, pl, el, e2⟩ => ?_)
  subst el e2
  refine thn (po_none.run pins s2 σ H2 (fun o H3 => o = none ∧ H3 = H2) I2 ⟨rfl, rfl⟩) fun vu s3 ⟨u, H3, I3, pu, eu, e3⟩ => ?_
  subst eu e3
  refine thn (hst.run pins s3 σ H3 (fun o H4 => o = some (-1) ∧ H4 = H3) I3 ⟨1, rfl, -1, rfl, rfl, rfl⟩) fun vs s4 ⟨o, H4, I4, ps, eo, e4⟩ => ?_
  subst eo e4
  have I5 : Inv X pins σ H4 { s4 with heap := s4.heap.push { cls := .type "slice", data := .fields #[vl, vu, vs] } } := I4.kept (t' := s4.toks) fun b ob q => Heap.get?_push_of_some _ q
  obtain ⟨l, rfl, hl⟩ := IsPart.raw pl
  obtain ⟨u, rfl, hu⟩ := IsPart.raw pu
  obtain ⟨w', rfl, hw⟩ := IsPart.raw ps
  show wpAny (model X.prog X.w) X.A (subscriptTail e (.Slice none none (some (.UnaryOp .USub (.Constant (.int 1) k p1) p2)) p3) (.str z t) (.ref s4.heap.objs.size)) (EP X pins σ Q) X.xe _
  refine tail_any (ops := [.ref s4.heap.objs.size, .str z t]) (typeIs_str _ _ _) PySem.F.slot_str_getitem.lookup ?_ (by with_unfolding_all rfl)
  refine wpAny_getItem_str_slice (l := l) (u := u) (st := w') ⟨_, Heap.get?_push_size _ rfl, rfl, rfl⟩ (by rw [hw]; decide) ?_
  have hp : ((Builtin.Str.strSliceIndices (l.map (·.1)) (u.map (·.1)) ((w'.map (·.1)).getD 1) z.length).filterMap (z.cps[·]?)) = z.cps.toList.reverse := by
    rw [hl, hu, hw]
    exact rev_pick z
  show Made.post (if ((w'.map (·.1)).getD 1 == 1 && (Builtin.Str.strSliceIndices (l.map (·.1)) (u.map (·.1)) ((w'.map (·.1)).getD 1) z.length).length == z.length) = true then Made.val (.str z t)
    else Made.str ⟨((Builtin.Str.strSliceIndices (l.map (·.1)) (u.map (·.1)) ((w'.map (·.1)).getD 1) z.length).filterMap (z.cps[·]?)).toArray⟩) (EP X pins σ Q) _
  rw [hp, if_neg (by rw [hw]; simp)]
  refine ⟨?_, .str ⟨z.cps.toList.reverse.toArray⟩, H4, I5.tok _, ⟨_, rfl⟩, q⟩
  show z.cps.toList.reverse.toArray.size ≤ sizeLine
  rw [List.size_toArray, List.length_reverse, Array.length_toList]
  exact hz

/-! ### a range that stands at an address, walked -/
def iRgv (te : TE) : TI := fun σ H R => te σ H fun x H1 => ∃ (a : Addr) (lo hi : Int), x = .ref a ∧ H1 a = some (.rng lo hi) ∧ (-(2 ^ 62) ≤ lo ∧ lo < 2 ^ 62 ∧ -(2 ^ 62) ≤ hi ∧ hi < 2 ^ 62) ∧ R (Itr lo (hi - lo).toNat) H1
theorem pi_rgv {tg e : Expr} {te : TE} (he : PE X e te) : PI X tg e (iRgv te) := by
  refine ⟨fun pins s σ H R I h => ?_⟩
  refine thn (he.run pins s σ H _ I h) fun v s1 ⟨x, H1, I1, r1, a, lo, hi, ex, ha, ⟨b1, b2, b3, b4⟩, q⟩ => ?_
  subst ex
  obtain rfl : v = Value.ref a := r1
  obtain ⟨t, u, w', ho⟩ := (show ObjOk X.prog X.w H1 s1.heap a (.rng lo hi) from I1.hok a _ ha)
  refine wpAny_pyIter_range (show IsRange s1.heap a lo hi 1 t u w' from ho) (small_one b1 b2 b3 b4) ?_
  refine ⟨s1.heap.objs.size, [s1.heap.objs.size], _, _, H1, rfl, I1.kept (t' := s1.toks) fun b o e => Heap.get?_push_of_some _ e, turn_range _ lo (hi - lo).toNat, ?_, fun b hb => ?_, q⟩
  · have e1 : lo + ((0 : Nat) : Int) * 1 = lo := by simp
    have e2 : (((hi - lo).toNat : Nat) : Int) - ((0 : Nat) : Int) = Builtin.Range.rangeSize lo hi 1 := by rw [rangeSize_one]; split <;> omega
    show IsRangeIter _ _ (lo + ((0 : Nat) : Int) * 1) ((((hi - lo).toNat : Nat) : Int) - ((0 : Nat) : Int)) 1
    rw [e1, e2]
    exact Heap.get?_push_size _ rfl
  · rw [List.mem_singleton.mp hb]
    exact I1.fpOk (Nat.le_refl _) (I1.hok.fresh (Nat.le_refl _))

/-! ### isinstance(e, c), e the error that the suite holds, whatever its own dict -/
structure ExcD (K : PySem.W.Frag) (D : Addr) : Prop where
  hcl : (PySem.W.clsIn K D).isSome = true
  hg : PySem.W.findIn K (.ref D) "__getattribute__" = some (some (.builtin "BaseException.__getattribute__"))
  hk : PySem.W.findIn K (.ref D) "__getattr__" = some none
  hs : PySem.W.subIn K (.ref D) (.type "BaseException") = some true
  ha : PySem.W.findIn K (.ref D) "__class__" = some (some (.builtin "object.__class__"))
  hn : PySem.W.specialIn K (.builtin "object.__class__") "__get__" = some (some (.builtin "getset_descriptor.__get__"))
  ht : PySem.W.takesIn K (.builtin "object.__class__") = some true
  hm : PySem.W.mroIn K D (.type "object") = some true
def rIsD (K : PySem.W.Frag) (D a : Addr) (cls : Value) (d : Option Addr) : List V → Hp → VK → Prop := fun xs H Q => ∃ (c : V) (cv : Value) (b : Bool) (dd : Addr) (fs : List (Str × V)),
  xs = [.ref a, c] ∧ cls = .ref D ∧ d = some dd ∧ H dd = some (.xd fs) ∧ (∀ u, RelV c u → u = cv) ∧ PySem.W.kitOne K (.ref D) cv = some b ∧ Q (.bl b) H
theorem call_isD {a D : Addr} {oe : Obj} {cls : Value} {d : Option Addr} {pn : List (Addr × Obj)} (C : ExcD X.K D) (hz : Zc cls d oe) (hf : ∃ vs, oe.data = .fields vs) : CallR (X.suite a ((a, oe) :: pn)) (.builtin "isinstance") (rIsD X.K D a cls d) := by
  intro pins s σ H xs us Q I r h
  obtain ⟨c, cv, b, dd, fs, rfl, ecl, ed, hd, hcv, e, q⟩ := h
  subst ecl ed
  obtain ⟨u1, u2, rfl, r1, r2⟩ := vals2 r
  obtain rfl : u1 = Value.ref a := r1
  obtain rfl : u2 = cv := hcv _ r2
  obtain ⟨hget, _⟩ := I.pin (a, oe) (List.mem_append.mpr (.inl List.mem_cons_self))
  obtain ⟨vs, hv⟩ := hf
  obtain ⟨mA, hns, _⟩ := (show ObjOk X.prog X.w H s.heap dd (.xd fs) from I.hok dd _ hd)
  obtain ⟨od, ho, _⟩ := lookIn_ns hns
  have J : PySem.W.InstAt s.heap a oe D (some od) := ⟨hget, hz.1, by unfold PySem.W.notCls; rw [hv] <;> rfl, by rw [hz.2]; exact ho⟩
  exact PySem.W.kia_one (PySem.W.kitx_exc C.hcl C.hg C.hk C.hs C.ha C.hn C.ht C.hm) I.kIn J e (fun z => nomatch z) fun tk => ⟨.bl b, H, I.kept (t' := tk) fun _ _ z => z, rfl, q⟩
end
end TW

section
open PySem PySem.W PyProof.Rows
set_option Elab.async false
set_option maxRecDepth 100000 in
set_option maxHeartbeats 0 in
open_top TW_head for PySem.Challenge.rw_twiceeach_k44_whole_fewest_pieces
end

set_option Elab.async false
set_option linter.all false
set_option maxRecDepth 100000
set_option maxHeartbeats 4000000
/-! The text by places, promises in short words, what stands at addresses. -/
namespace TW
open PySem PySem.Spec PyProof.Rows L2

/-! ### the text -/
def topS (i : Nat) : Stmt := PySem.Challenge.pw_twiceeach_k44_whole_fewest_pieces.main.body.getD i (.Pass ⟨0, 0, 0, 0⟩)
/-- a def of the text as it stands behind the top -/
structure At (K : PySem.W.Frag) (mg : Str → Option Value) (nm : Str) (st : Stmt) : Prop where
  ex : ∃ f fd, mg nm = some (.ref f) ∧ Fun K nm nm st f fd
/-- a def that keeps a promise, found by its name -/
def Ok (P : Program) (w : World) (K : PySem.W.Frag) (mg : Str → Option Value) (base : Heap) (CX : CXT) (k : Nat) (nm : Str) (ps : List Str) (sp : Sp) : Prop :=
  ∃ f fd, mg nm = some (.ref f) ∧ PySem.W.keepIn K (.ref f) = true ∧ Binds K fd ps [] ∧ FnOk P w K mg base CX k f fd ps sp
/-- the built-in names that are nobody's -/
structure Nm (mg : Str → Option Value) : Prop where
  len : mg "len" = none
  range : mg "range" = none
  abs : mg "abs" = none
  int : mg "int" = none
  sorted : mg "sorted" = none
  isinstance : mg "isinstance" = none
  list : mg "list" = none
  tuple : mg "tuple" = none
  dict : mg "dict" = none
  bool : mg "bool" = none
  str : mg "str" = none
  max : mg "max" = none
  sum : mg "sum" = none
  super : mg "super" = none
section
variable {P : Program} {w : World} {K : PySem.W.Frag} {mg : Str → Option Value} {base : Heap} {nm : Str} {st : Stmt} {N ps : List Str} {k : Nat} {sp : Sp}
theorem mk_ok (A : At K mg nm st) (S : FnScope N ps (defScope st))
    (hb : ∀ (kV doc pm : Value) (an : Option Addr) (cdv ct : Value) (us : List Value), us.length = ps.length → bindArgs (PySem.W.fnOf nm nm (defArgs st) (defBody st) (defScope st) .none kV doc pm an cdv ct) ⟨us, []⟩ = pure (ps.zip us))
    (len : ∀ vs H Q E, sp vs H Q E → vs.length = ps.length)
    (hbody : ∀ (f : Addr) (cdv : Value) (A : Around) (outer : List Env) (s : Shared) (H : Hp) (vs : List V) (Q : VK) (E : XK), Room k (A.deeper (envOfC nm (defScope st) s.heap.objs.size f cdv)) → sp vs H Q E →
      ∃ t, PSs (cxOf CX0 P w K mg base N nm (defScope st) f cdv A outer s H E).nox (defBody st) t ∧ t { nx := fun _ H' => Q .non H', rt := Q } (start N vs) H) : Ok P w K mg base CX0 (k + 1) nm ps sp := by
  obtain ⟨f, fd, g, F⟩ := A.ex
  exact ⟨f, fd, g, F.kp, F.binds hb, F.ok S len fun cdv A outer s H vs Q E hr h => hbody f cdv A outer s H vs Q E hr h⟩
/-- .. one that may raise -/
theorem mk_okX (A : At K mg nm st) (S : FnScope N ps (defScope st))
    (hb : ∀ (kV doc pm : Value) (an : Option Addr) (cdv ct : Value) (us : List Value), us.length = ps.length → bindArgs (PySem.W.fnOf nm nm (defArgs st) (defBody st) (defScope st) .none kV doc pm an cdv ct) ⟨us, []⟩ = pure (ps.zip us))
    (len : ∀ vs H Q E, sp vs H Q E → vs.length = ps.length)
    (hbody : ∀ (f : Addr) (cdv : Value) (A : Around) (outer : List Env) (s : Shared) (H : Hp) (vs : List V) (Q : VK) (E : XK), Room k (A.deeper (envOfC nm (defScope st) s.heap.objs.size f cdv)) → sp vs H Q E →
      ∃ t, PSs (cxOf (L2.CX P w) P w K mg base N nm (defScope st) f cdv A outer s H E) (defBody st) t ∧ t { nx := fun _ H' => Q .non H', rt := Q } (start N vs) H) : Ok P w K mg base (L2.CX P w) (k + 1) nm ps sp := by
  obtain ⟨f, fd, g, F⟩ := A.ex
  exact ⟨f, fd, g, F.kp, F.binds hb, F.okX S len fun cdv A outer s H vs Q E hr h => hbody f cdv A outer s H vs Q E hr h⟩
end

/-! ### heaps -/
theorem same_new {H : Hp} {p : Addr} {o : HO} (h : H p = none) : Same H (upd H p o) := fun b x e => by
  rw [upd_ne (ne_of_none e h)]
  exact e
theorem same_put {H H1 : Hp} {p : Addr} {o : HO} (h : H p = none) (s : Same H H1) : Same H (upd H1 p o) := fun b x e => by
  rw [upd_ne (ne_of_none e h)]
  exact s b x e
theorem Same.seqT {K : PySem.W.Frag} {H H' : Hp} {a : Addr} {xs : List V} (e : Same H H') (h : SqT K H a xs) : SqT K H' a xs := by
  rcases h with (h | ⟨o, h⟩) | h
  · exact .inl (.inl (e _ _ h))
  · exact .inl (.inr ⟨o, e _ _ h⟩)
  · exact .inr h
/-- a text by its codes -/
def tx (l : List Nat) : V := .str ⟨l.toArray⟩
theorem tx_of (z : Str) : V.str z = tx z.cps.toList := by
  show V.str z = V.str ⟨z.cps.toList.toArray⟩
  rw [Array.toArray_toList]
theorem tx_inj {a b : List Nat} (h : tx a = tx b) : a = b := by
  have h1 := V.str.inj h
  have h2 := congrArg Str.cps h1
  have h3 := congrArg Array.toList h2
  simpa using h3
/-- references to tuples of ints -/
inductive Tups (H : Hp) : List V → List (List Int) → Prop where
  | nil : Tups H [] []
  | cons {t : Addr} {p : List Int} {xs : List V} {L : List (List Int)} : H t = some (.tup (p.map V.int)) → Tups H xs L → Tups H (.ref t :: xs) (p :: L)
theorem Tups.length {H : Hp} : ∀ {xs : List V} {L : List (List Int)}, Tups H xs L → xs.length = L.length
  | _, _, .nil => rfl
  | _, _, .cons _ h => congrArg Nat.succ h.length
theorem Tups.get {H : Hp} : ∀ {xs : List V} {L : List (List Int)} {i : Nat} {x : V}, Tups H xs L → xs[i]? = some x → ∃ t p, x = .ref t ∧ L[i]? = some p ∧ H t = some (.tup (p.map V.int))
  | _, _, _, _, .nil, h => by simp at h
  | _, _, 0, x, .cons (t := t) (p := p) e _, h => ⟨t, p, (Option.some.inj h).symm, rfl, e⟩
  | _, _, i + 1, x, .cons e r, h => Tups.get (i := i) r h
theorem Tups.mono {H H' : Hp} (s : Same H H') : ∀ {xs : List V} {L : List (List Int)}, Tups H xs L → Tups H' xs L
  | _, _, .nil => .nil
  | _, _, .cons e r => .cons (s _ _ e) (Tups.mono s r)
theorem Tups.snoc {H : Hp} {t : Addr} {p : List Int} (e : H t = some (.tup (p.map V.int))) : ∀ {xs : List V} {L : List (List Int)}, Tups H xs L → Tups H (xs ++ [.ref t]) (L ++ [p])
  | _, _, .nil => .cons e .nil
  | _, _, .cons e' r => .cons e' (Tups.snoc e r)
theorem Tups.append {H : Hp} : ∀ {xs ys : List V} {L M : List (List Int)}, Tups H xs L → Tups H ys M → Tups H (xs ++ ys) (L ++ M)
  | _, _, _, _, .nil, r => r
  | _, _, _, _, .cons e l, r => .cons e (Tups.append l r)
theorem int_of {ns : List Int} {i : Nat} {v : V} (h : (ns.map V.int)[i]? = some v) : ∃ n, v = .int n ∧ ns[i]? = some n := by
  rw [List.getElem?_map] at h
  cases e : ns[i]? with
  | none =>
    rw [e] at h
    cases h
  | some n =>
    rw [e] at h
    exact ⟨n, (Option.some.inj h).symm, rfl⟩
theorem int_at {ns : List Int} {i : Nat} {n : Int} (h : ns[i]? = some n) : (ns.map V.int)[i]? = some (.int n) := by
  rw [List.getElem?_map, h]
  rfl
theorem line_ge {n : Nat} (h : n ≤ 16777216) : n ≤ sizeLine := by rw [sizeLine_eq]; exact h
theorem line_gt {n : Nat} (h : n < 16777216) : n < sizeLine := by rw [sizeLine_eq]; exact h

/-! ### _law_cell -/
def spCell (K : PySem.W.Frag) : Sp := fun vs H Q _ => ∃ (a : Addr) (ns : List Int) (k : Int), vs = [.ref a, .int k] ∧ SqL K H a (ns.map V.int) ∧ 0 ≤ k ∧ ∀ v : Int, Q (.int v) H
section
variable {P : Program} {w : World} {K : PySem.W.Frag} {mg : Str → Option Value} {base : Heap}
theorem sc_cell : FnScope ["_law_script", "_law_k"] ["_law_script", "_law_k"] (defScope (topS 19)) := ⟨rfl, rfl, rfl, by decide +kernel, rfl, by decide +kernel, by decide +kernel⟩
theorem ok_cell (A : At K mg "_law_cell" (topS 19)) (T : Nm mg) : Ok P w K mg base CX0 1 "_law_cell" ["_law_script", "_law_k"] (spCell K) := by
  refine mk_ok A sc_cell (fun _ _ _ _ _ _ us hl => match us, hl with | [_, _], _ => rfl) (fun vs H Q E h => ?_) (fun f cdv A outer s H vs Q E hr h => ?_)
  · obtain ⟨a, ns, k, rfl, _⟩ := h
    rfl
  · obtain ⟨a, ns, k, rfl, hS, hk, q⟩ := h
    refine ⟨_, pss_cons (ps_if (pt_cmpR op_lt (pv 1) (pe_callB call_len_seq (by rfl) T.len PySem.boot_len (pa_cons (pv 0) pa_nil)) (nomark _)) (pss_one (ps_ret (pe_ix ix_list (pv 0) (pv 1) (fun _ _ => rfl)))) pss_nil)
      (pss_one (ps_ret pe_int)), ?_⟩
    refine ⟨_, rfl, _, rfl, a, _, rfl, .inl hS, _, _, rfl, rfl, _, rfl, ite2 (fun e => ?_) (fun e => q 0)⟩
    have e1 : k < ((ns.map V.int).length : Int) := of_decide_eq_true e
    rw [List.length_map] at e1
    obtain ⟨j, rfl⟩ : ∃ j : Nat, k = (j : Int) := ⟨k.toNat, by omega⟩
    have hj : j < ns.length := by omega
    exact ⟨_, rfl, _, rfl, a, _, _, .int ns[j], rfl, rfl, hS, atI_nat (int_at (List.getElem?_eq_getElem hj)), q _⟩
end
end TW

set_option Elab.async false
set_option linter.all false
set_option maxRecDepth 100000
set_option maxHeartbeats 4000000
namespace TW
open PySem PySem.Spec PyProof.Rows L2
/-! ### _law_draws: many numbers from 0 to 999 -/
def spDraws : Sp := fun vs H Q _ => ∃ (c : Int) (m : Nat), vs = [.int c, .int (m : Int)] ∧ m ≤ 30 ∧
  ∀ (H' : Hp) (p : Addr) (ds : List Int), Same H H' → H p = none → H' p = some (.lst (ds.map V.int)) → ds.length = m → (∀ d ∈ ds, 0 ≤ d ∧ d < 1000) → Q (.ref p) H'
def DW (c : Int) (m : Nat) (dg : Bool) (o : Addr) (H : Hp) (i : Nat) (σ : L2.St) (H' : Hp) : Prop := ∃ (left mixed : Int) (ds : List Int) (v6 : Option V),
  σ = [some (.int c), some (.int (m : Int)), some (.int left), some (.bl dg), some (.int mixed), some (.ref o), v6] ∧ Same H H' ∧ H' o = some (.lst (ds.map V.int)) ∧ ds.length = i ∧ (∀ d ∈ ds, 0 ≤ d ∧ d < 1000) ∧ 0 ≤ mixed ∧ mixed < 1000003
theorem DW.put {c : Int} {m : Nat} {dg : Bool} {o : Addr} {H H' : Hp} {i : Nat} {ds : List Int} (no : H o = none) (sm : Same H H') (hl : ds.length = i) (hd : ∀ d ∈ ds, 0 ≤ d ∧ d < 1000) {mx : Int} (d left : Int) (v6 : Option V) (h0 : 0 ≤ mx) (h1 : mx < 1000003) (h2 : 0 ≤ d) (h3 : d < 1000) :
    DW c m dg o H (i + 1) [some (.int c), some (.int (m : Int)), some (.int left), some (.bl dg), some (.int mx), some (.ref o), v6] (upd H' o (.lst (ds.map V.int ++ [V.int d]))) := by
  refine ⟨left, mx, ds ++ [d], v6, rfl, same_put no sm, by rw [upd_same, List.map_append]; rfl, by rw [List.length_append, hl]; rfl, fun x hx => ?_, h0, h1⟩
  rcases List.mem_append.mp hx with hx | hx
  · exact hd x hx
  · rw [List.mem_singleton.mp hx]
    exact ⟨h2, h3⟩
section
variable {P : Program} {w : World} {K : PySem.W.Frag} {mg : Str → Option Value} {base : Heap}
theorem sc_draws : FnScope ["_law_cell_here", "_law_many", "_law_left", "_law_digits", "_law_mixed", "_law_draws_here", "_law_k"] ["_law_cell_here", "_law_many"] (defScope (topS 20)) := ⟨rfl, rfl, rfl, by decide +kernel, rfl, by decide +kernel, by decide +kernel⟩
theorem ok_draws (A : At K mg "_law_draws" (topS 20)) (T : Nm mg) : Ok P w K mg base CX0 1 "_law_draws" ["_law_cell_here", "_law_many"] spDraws := by
  refine mk_ok A sc_draws (fun _ _ _ _ _ _ us hl => match us, hl with | [_, _], _ => rfl) (fun vs H Q E h => ?_) (fun f cdv A outer s H vs Q E hr h => ?_)
  · obtain ⟨c, m, rfl, _⟩ := h
    rfl
  · obtain ⟨c, m, rfl, hm, q⟩ := h
    have hb : bootBuiltins "abs" = some (.builtin "abs") := by decide +kernel
    have hi : bootBuiltins "int" = some (.type "int") := by decide +kernel
    refine ⟨_, pss_cons (ps_set (i := 2) sc_draws.nd rfl (.inl rfl) (pe_callB call_abs (by rfl) T.abs hb (pa_cons (pv 0) pa_nil)))
      (pss_cons (ps_set (i := 3) sc_draws.nd rfl (.inl rfl) (pe_cmpR op_ge (pv 2) (pe_op op_pow pe_int pe_int) (nomark _)))
      (pss_cons (ps_set (i := 4) sc_draws.nd rfl (.inl rfl) (pe_op op_mod (pe_callTy call_int1 (by rfl) T.int hi (pa_cons (pv 2) pa_nil)) pe_int))
      (pss_cons (ps_set (i := 5) sc_draws.nd rfl (.inl rfl) (pe_lst pa_nil))
      (pss_cons (ps_for PassesOwn.never rfl (pi_range1 rfl T.range (pa_cons (pv 1) pa_nil)) (pg_name (i := 6) sc_draws.nd rfl (.inl rfl))
        (pss_cons (ps_set (i := 4) sc_draws.nd rfl (.inl rfl) (pe_op op_mod (pe_callTy call_int1 (by rfl) T.int hi (pa_cons (pe_op op_add (pe_op op_add (pe_op op_mul (pv 4) pe_int) (pe_op op_mul pe_int (pv 6))) pe_int) pa_nil)) pe_int))
        (pss_one (ps_if (PW.pt (pw_and (pt_val (pv 3)) (pw_and1 (pt_cmpR op_gt (pv 2) pe_int (nomark _)))))
          (pss_cons (ps_expr (pe_bm PySem.F.plainAttrs_list PySem.F.slot_list_append PySem.F.type_list_append mt_append (pv 5) (pa_cons (pe_op op_mod (pe_callTy call_int1 (by rfl) T.int hi (pa_cons (pv 2) pa_nil)) pe_int) pa_nil)))
            (pss_one (ps_set (i := 2) sc_draws.nd rfl (.inl rfl) (pe_op op_fdiv (pv 2) pe_int))))
          (pss_one (ps_expr (pe_bm PySem.F.plainAttrs_list PySem.F.slot_list_append PySem.F.type_list_append mt_append (pv 5)
            (pa_cons (pe_op op_mod (pe_op op_mod (pe_callTy call_int1 (by rfl) T.int hi (pa_cons (pe_op op_add (pe_op op_add (pe_op op_mul (pv 4) (pv 4)) (pe_op op_mul pe_int (pv 4))) (pv 6)) pa_nil)) pe_int) pe_int) pa_nil))))))))
      (pss_one (ps_ret (pv 5))))))), ?_⟩
    generalize hL : (if c < 0 then -c else c) = L0
    refine ⟨_, rfl, c, rfl, ?_⟩
    rw [hL]
    refine ⟨_, rfl, _, _, rfl, rfl, ⟨by decide, by decide, by decide⟩, _, _, rfl, rfl, ?_⟩
    refine ⟨_, rfl, .inl ⟨_, rfl, _, _, rfl, rfl, (by show (0 : Int) < 1000003; decide), ?_⟩⟩
    refine ⟨Nat.zero_le _, fun o no => ?_⟩
    obtain ⟨dg, hdg⟩ : ∃ dg, decide ((10 : Int) ^ (18 : Int).toNat ≤ L0) = dg := ⟨_, rfl⟩
    refine ⟨_, rfl, (m : Int), rfl, by omega, by omega, for_range (lo := 0) (n := (m : Int).toNat) (DW c m dg o H)
      ⟨L0, L0 % 1000003, [], none, (by rw [← hdg]; rfl), same_new no, upd_same, rfl, fun d hd => (by cases hd), by omega, by omega⟩ ?_ ?_⟩
    · rintro i σ H' hi' ⟨left, mixed, ds, v6, rfl, sm, ho, hl, hd, m0, m1⟩
      refine ⟨_, rfl, _, _, rfl, rfl, .inl ⟨by omega, by omega⟩, _, rfl, _, _, rfl, rfl, .inl ⟨by decide, by decide⟩, _, _, rfl, rfl, _, _, rfl, rfl, .inl ⟨_, rfl, _, _, rfl, rfl, (by show (0 : Int) < 1000003; decide), ?_⟩⟩
      have p0 : ∀ x : Int, 0 ≤ x % 1000003 := fun x => Int.emod_nonneg _ (by decide)
      have p1 : ∀ x : Int, x % 1000003 < 1000003 := fun x => Int.emod_lt_of_pos _ (by decide)
      have p2 : ∀ x : Int, 0 ≤ x % 1000 := fun x => Int.emod_nonneg _ (by decide)
      have p3 : ∀ x : Int, x % 1000 < 1000 := fun x => Int.emod_lt_of_pos _ (by decide)
      have b0 := p0 (mixed * 48271 + 13 * (0 + (i : Int)) + 11)
      have b1 := p1 (mixed * 48271 + 13 * (0 + (i : Int)) + 11)
      have hm1 : i < m := by omega
      have small : (ds.map V.int).length < sizeLine := by
        rw [List.length_map, hl]
        exact line_gt (by omega)
      refine ⟨_, rfl, dg, rfl, ?_⟩
      cases dg with
      | true =>
        refine iteT ⟨_, rfl, _, _, rfl, rfl, _, rfl, ite2 (fun e => ?_) (fun e => ?_)⟩
        · refine ⟨_, rfl, .inl ⟨rfl, _, SqL.of ho⟩, _, rfl, .inl ⟨_, rfl, _, _, rfl, rfl, (by show (0 : Int) < 1000; decide), o, _, _, rfl, rfl, ho, small, ?_⟩⟩
          refine ⟨_, rfl, _, _, rfl, rfl, ⟨by decide, by decide⟩, DW.put no sm hl hd _ _ _ (p0 _) (p1 _) (p2 _) (p3 _)⟩
        · refine ⟨_, rfl, .inl ⟨rfl, _, SqL.of ho⟩, _, rfl, _, rfl, _, _, rfl, rfl, .inl ⟨by omega, by omega⟩, _, rfl, _, _, rfl, rfl, .inl ⟨by decide, by decide⟩, _, _, rfl, rfl, _, rfl, _, _, rfl, rfl, .inl ⟨_, rfl, _, _, rfl, rfl, (by show (0 : Int) < 999983; decide), _, _, rfl, rfl, (by show (0 : Int) < 1000; decide), o, _, _, rfl, rfl, ho, small, DW.put no sm hl hd _ _ _ (p0 _) (p1 _) (p2 _) (p3 _)⟩⟩
      | false =>
        refine iteF (iteF ?_)
        refine ⟨_, rfl, .inl ⟨rfl, _, SqL.of ho⟩, _, rfl, _, rfl, _, _, rfl, rfl, .inl ⟨by omega, by omega⟩, _, rfl, _, _, rfl, rfl, .inl ⟨by decide, by decide⟩, _, _, rfl, rfl, _, rfl, _, _, rfl, rfl, .inl ⟨_, rfl, _, _, rfl, rfl, (by show (0 : Int) < 999983; decide), _, _, rfl, rfl, (by show (0 : Int) < 1000; decide), o, _, _, rfl, rfl, ho, small, DW.put no sm hl hd _ _ _ (p0 _) (p1 _) (p2 _) (p3 _)⟩⟩
    · rintro σ H' ⟨left, mixed, ds, v6, rfl, sm, ho, hl, hd, _, _⟩
      exact ⟨_, rfl, q H' o ds sm no ho (by omega) hd⟩
end
end TW

set_option Elab.async false
set_option linter.all false
set_option maxRecDepth 100000
set_option maxHeartbeats 4000000
namespace TW
open PySem PySem.Spec PyProof.Rows L2
/-! ### texts put together -/
def S (l : List Nat) : Str := ⟨l.toArray⟩
theorem S_len (l : List Nat) : (S l).length = l.length := by
  show l.toArray.size = l.length
  rw [List.size_toArray]
theorem S_codes (z : Str) : S z.cps.toList = z := by
  show (⟨z.cps.toList.toArray⟩ : Str) = z
  rw [Array.toArray_toList]
theorem S_append (a b : List Nat) : S a ++ S b = S (a ++ b) := by
  show (⟨a.toArray ++ b.toArray⟩ : Str) = ⟨(a ++ b).toArray⟩
  rw [List.append_toArray]
theorem empty_S : (PySem.Str.ofString "" : Str) = S [] := by decide +kernel
theorem join_S : ∀ ps : List (List Nat), Txt.join (PySem.Str.ofString "") (ps.map S) = S ps.flatten := by
  have key : ∀ ps : List (List Nat), Str.join (S []) (ps.map S) = S ps.flatten := by
    intro ps
    induction ps with
    | nil => rfl
    | cons p r ih =>
      cases r with
      | nil =>
        show S p = S (p ++ [])
        rw [List.append_nil]
      | cons q r =>
        show S p ++ S [] ++ Str.join (S []) ((q :: r).map S) = S (p ++ (q :: r).flatten)
        rw [ih, S_append, S_append, List.append_nil]
  intro ps
  rw [empty_S, TL.join_eq]
  exact key ps

/-- codes that a text may have -/
def OkT (t : List Nat) : Prop := ∀ c ∈ t, c < 1114112
theorem OkT.of_all {t : List Nat} (h : t.all (fun c => decide (c < 1114112)) = true) : OkT t := fun c hc => of_decide_eq_true (List.all_eq_true.mp h c hc)
/-! ### _law_letters: one to four letters -/
def spLetters : Sp := fun vs H Q _ => ∃ d : Int, vs = [.int d] ∧ ∀ (H' : Hp) (z : Str), Same H H' → 1 ≤ z.length → z.length ≤ 4 → OkT z.cps.toList → Q (.str z) H'
section
variable {P : Program} {w : World} {K : PySem.W.Frag} {mg : Str → Option Value} {base : Heap}
theorem sc_letters : FnScope ["_law_draw", "_law_small", "_law_first_here", "_law_second", "_law_form"] ["_law_draw"] (defScope (topS 21)) := ⟨rfl, rfl, rfl, by decide +kernel, rfl, by decide +kernel, by decide +kernel⟩
theorem small_len : (PySem.Str.ofString "abcdefghijklmnopqrstuvwxyz").cps.toList.length = 26 := by decide +kernel
theorem small_ok : OkT (PySem.Str.ofString "abcdefghijklmnopqrstuvwxyz").cps.toList := OkT.of_all (by decide +kernel)
theorem letter_at {i : Int} (h0 : 0 ≤ i) (h1 : i < 26) : ∃ c, atI (PySem.Str.ofString "abcdefghijklmnopqrstuvwxyz").cps.toList i = some c ∧ c < 1114112 := by
  obtain ⟨j, rfl⟩ : ∃ j : Nat, i = (j : Int) := ⟨i.toNat, by omega⟩
  have hj : j < (PySem.Str.ofString "abcdefghijklmnopqrstuvwxyz").cps.toList.length := by rw [small_len]; omega
  exact ⟨_, atI_nat (List.getElem?_eq_getElem hj), small_ok _ (List.getElem_mem hj)⟩
theorem small_line : (PySem.Str.ofString "abcdefghijklmnopqrstuvwxyz").length ≤ sizeLine := by
  have := small_len
  rw [Array.length_toList] at this
  exact line_ge (by show (PySem.Str.ofString "abcdefghijklmnopqrstuvwxyz").cps.size ≤ _; omega)
theorem ok_letters (A : At K mg "_law_letters" (topS 21)) (T : Nm mg) : Ok P w K mg base CX0 1 "_law_letters" ["_law_draw"] spLetters := by
  refine mk_ok A sc_letters (fun _ _ _ _ _ _ us hl => match us, hl with | [_], _ => rfl) (fun vs H Q E h => ?_) (fun f cdv A outer s H vs Q E hr h => ?_)
  · obtain ⟨d, rfl, _⟩ := h
    rfl
  · obtain ⟨d, rfl, q⟩ := h
    have hi : bootBuiltins "int" = some (.type "int") := by decide +kernel
    refine ⟨_, pss_cons (ps_set (i := 1) sc_letters.nd rfl (.inl rfl) pe_str)
      (pss_cons (ps_set (i := 2) sc_letters.nd rfl (.inl rfl) (pe_op op_mod (pe_callTy call_int1 (by rfl) T.int hi (pa_cons (pe_op op_fdiv (pv 0) pe_int) pa_nil)) pe_int))
      (pss_cons (ps_set (i := 3) sc_letters.nd rfl (.inl rfl) (pe_op op_add (pe_op op_add (pv 2) pe_int) (pe_op op_mod (pe_callTy call_int1 (by rfl) T.int hi (pa_cons (pe_op op_fdiv (pv 0) pe_int) pa_nil)) (pe_op op_sub pe_int (pv 2)))))
      (pss_cons (ps_set (i := 4) sc_letters.nd rfl (.inl rfl) (pe_op op_mod (pe_callTy call_int1 (by rfl) T.int hi (pa_cons (pv 0) pa_nil)) pe_int))
      (pss_cons (ps_if (pt_cmpR op_lt (pv 4) pe_int (nomark _)) (pss_one (ps_ret (pe_op op_add_str (pe_ix ix_str (pv 1) (pv 2) (fun _ _ => rfl)) (pe_ix ix_str (pv 1) (pv 3) (fun _ _ => rfl))))) pss_nil)
      (pss_one (ps_ret (pe_ix ix_list (pe_lst (pa_cons (pe_ix ix_str (pv 1) (pv 3) (fun _ _ => rfl)) (pa_cons pe_str (pa_cons pe_str pa_nil)))) (pe_op op_sub (pv 4) pe_int) (fun _ _ => rfl)))))))), ?_⟩
    -- first
    refine ⟨_, rfl, _, _, rfl, rfl, ⟨by decide, by decide⟩, .inl ⟨_, rfl, _, _, rfl, rfl, (by show (0 : Int) < 25; decide), ?_⟩⟩
    have f0 : 0 ≤ d / 8 % 25 := Int.emod_nonneg _ (by decide)
    have f1 : d / 8 % 25 < 25 := Int.emod_lt_of_pos _ (by decide)
    -- second
    refine ⟨_, rfl, _, _, rfl, rfl, _, rfl, _, _, rfl, rfl, ⟨by decide, by decide⟩, .inl ⟨_, rfl, _, rfl, _, _, rfl, rfl, _, _, rfl, rfl, (by omega), _, _, rfl, rfl, ?_⟩⟩
    have s0 : 0 ≤ d / 200 % (25 - d / 8 % 25) := Int.emod_nonneg _ (by omega)
    have s1 : d / 200 % (25 - d / 8 % 25) < 25 - d / 8 % 25 := Int.emod_lt_of_pos _ (by omega)
    -- form
    refine ⟨_, rfl, .inl ⟨_, rfl, _, _, rfl, rfl, (by show (0 : Int) < 8; decide), ?_⟩⟩
    have m0 : 0 ≤ d % 8 := Int.emod_nonneg _ (by decide)
    have m1 : d % 8 < 8 := Int.emod_lt_of_pos _ (by decide)
    obtain ⟨c1, e1, k1⟩ := letter_at f0 (by omega)
    obtain ⟨c2, e2, k2⟩ := letter_at (i := d / 8 % 25 + 1 + d / 200 % (25 - d / 8 % 25)) (by omega) (by omega)
    refine ⟨_, rfl, _, _, rfl, rfl, _, rfl, ite2 (fun e => ?_) (fun e => ?_)⟩
    · refine ⟨_, rfl, _, rfl, _, _, c1, rfl, rfl, small_line, e1, _, rfl, _, rfl, _, _, c2, rfl, rfl, small_line, e2, _, _, rfl, rfl, line_ge (by show 1 + 1 ≤ 16777216; decide), ?_⟩
      exact q _ _ (Same.refl _) (by show 1 ≤ 2; decide) (by show 2 ≤ 4; decide) fun c hc => by
        rcases List.mem_cons.mp (show c ∈ [c1, c2] from hc) with rfl | hc
        · exact k1
        · rw [List.mem_singleton.mp hc]
          exact k2
    · have e3 : ¬ d % 8 < 5 := fun z => e (decide_eq_true z)
      refine ⟨_, rfl, _, rfl, _, _, c2, rfl, rfl, small_line, e2, line_ge (by show 3 ≤ 16777216; decide), fun l nl => ?_⟩
      refine ⟨_, rfl, _, _, rfl, rfl, ?_⟩
      obtain ⟨j, hj, hjs⟩ : ∃ j : Nat, d % 8 - 5 = (j : Int) ∧ j < 3 := ⟨(d % 8 - 5).toNat, by omega, by omega⟩
      have s1 := same_new (o := .lst [V.str ⟨#[c2]⟩, V.str (PySem.Str.ofString "acz"), V.str (PySem.Str.ofString "abcd")]) nl
      match j, hjs with
      | 0, _ => exact ⟨l, _, _, V.str ⟨#[c2]⟩, rfl, rfl, SqL.of upd_same, at_of hj rfl, q _ _ s1 (by show 1 ≤ 1; decide) (by show 1 ≤ 4; decide) fun c hc => by
        rw [List.mem_singleton.mp (show c ∈ [c2] from hc)]
        exact k2⟩
      | 1, _ => exact ⟨l, _, _, V.str (PySem.Str.ofString "acz"), rfl, rfl, SqL.of upd_same, at_of hj rfl, q _ _ s1 (by decide +kernel) (by decide +kernel) (OkT.of_all (by decide +kernel))⟩
      | 2, _ => exact ⟨l, _, _, V.str (PySem.Str.ofString "abcd"), rfl, rfl, SqL.of upd_same, at_of hj rfl, q _ _ s1 (by decide +kernel) (by decide +kernel) (OkT.of_all (by decide +kernel))⟩

/-! ### _law_text: as many letters as draws -/
def spText (K : PySem.W.Frag) : Sp := fun vs H Q _ => ∃ (a : Addr) (z : Str) (ds : List Int), vs = [.ref a, .str z] ∧ SqL K H a (ds.map V.int) ∧ ds.length ≤ 30 ∧ 1 ≤ z.length ∧ z.length ≤ 4 ∧ OkT z.cps.toList ∧
  ∀ (H' : Hp) (t : List Nat), Same H H' → t.length = ds.length → OkT t → Q (.str (S t)) H'
theorem sc_text : FnScope ["_law_draws_here", "_law_letters_here", "_law_draw"] ["_law_draws_here", "_law_letters_here"] (defScope (topS 23)) := ⟨rfl, rfl, rfl, by decide +kernel, rfl, by decide +kernel, by decide +kernel⟩
theorem ok_text (A : At K mg "_law_text" (topS 23)) (T : Nm mg) : Ok P w K mg base CX0 1 "_law_text" ["_law_draws_here", "_law_letters_here"] (spText K) := by
  refine mk_ok A sc_text (fun _ _ _ _ _ _ us hl => match us, hl with | [_, _], _ => rfl) (fun vs H Q E h => ?_) (fun f cdv A outer s H vs Q E hr h => ?_)
  · obtain ⟨a, z, ds, rfl, _⟩ := h
    rfl
  · obtain ⟨a, z, ds, rfl, hS, hl, z1, z4, zk, q⟩ := h
    have hi : bootBuiltins "int" = some (.type "int") := by decide +kernel
    refine ⟨_, pss_one (ps_ret (pe_join pe_str (pe_lc (own := [("_law_draw", 2)]) (g := gName 2) (tt := tYes) rfl sc_text.nd (pi_list (pv 0)) (blkOk_by (N := ["_law_draws_here", "_law_letters_here", "_law_draw"]) (sc := defScope (topS 23)) (by decide +kernel))
      (fun _ _ _ _ _ => pg_name (i := 2) sc_text.nd rfl (Or.inl rfl)) (fun _ _ _ _ _ => pts_nil)
      (fun _ _ _ _ _ => pe_ix ix_str (pv 1) (pe_op op_modN (pe_callTy call_int1 (by rfl) T.int hi (pa_cons (pv 2) pa_nil)) (pe_callB call_len_str (by rfl) T.len PySem.boot_len (pa_cons (pv 1) pa_nil))) (fun _ _ => rfl))))), ?_⟩
    refine ⟨⟨_, rfl⟩, _, rfl, a, rfl, ⟨_, hS⟩, fun D nD => lc_list (K := K) (a := a) (xs := ds.map V.int)
      (fun i H' => ∃ t : List Nat, t.length = i ∧ OkT t ∧ Same H H' ∧ H' D = some (.lst ((t.map fun c => S [c]).map V.str)))
      ⟨[], rfl, fun c hc => (by cases hc), same_new nD, upd_same⟩ (fun i H' _ ⟨t, _, _, sm, _⟩ => sm.seq hS) ?_ ?_⟩
    · rintro i x H' hx ⟨t, ht, tk, sm, hD⟩
      obtain ⟨n, rfl, hn⟩ := int_of hx
      have hil : i < ds.length := (List.getElem?_eq_some_iff.mp hn).1
      have hz0 : (z.length : Int) ≠ 0 := by omega
      have g0 : 0 ≤ Int.fmod n (z.length : Int) := Int.fmod_nonneg_of_pos _ (by omega)
      have g1 : Int.fmod n (z.length : Int) < (z.length : Int) := Int.fmod_lt_of_pos _ (by omega)
      obtain ⟨j, hj⟩ : ∃ j : Nat, Int.fmod n (z.length : Int) = (j : Int) := ⟨(Int.fmod n (z.length : Int)).toNat, by omega⟩
      have hjl : j < z.cps.toList.length := by
        rw [Array.length_toList]
        show j < z.length
        omega
      refine ⟨rfl, ?_⟩
      refine ⟨_, rfl, _, rfl, .inl ⟨_, rfl, _, rfl, z, rfl, line_ge (by omega), _, _, rfl, rfl, hz0, z, _, z.cps.toList[j], rfl, rfl, line_ge (by omega), (by rw [hj]; exact atI_nat (List.getElem?_eq_getElem hjl)), _, hD, ?_, t ++ [z.cps.toList[j]], ?_, ?_, same_put nD sm, ?_⟩⟩
      · rw [List.length_map, List.length_map, ht]
        exact line_gt (by omega)
      · rw [List.length_append, ht]
        rfl
      · intro c hc
        rcases List.mem_append.mp hc with hc | hc
        · exact tk c hc
        · rw [List.mem_singleton.mp hc]
          exact zk _ (List.getElem_mem hjl)
      · rw [upd_same, List.map_append, List.map_append]
        rfl
    · rintro H' ⟨t, ht, tk, sm, hD⟩
      rw [List.length_map] at ht
      refine ⟨_, D, _, rfl, rfl, .inl (SqL.of hD), ?_, ?_⟩
      · have e : ((t.map fun c => S [c]).map (·.length)).sum = t.length := by
          rw [List.map_map]
          have : ∀ l : List Nat, (l.map ((fun x : Str => x.length) ∘ fun c => S [c])).sum = l.length := by
            intro l
            induction l with
            | nil => rfl
            | cons c r ih =>
              rw [List.map_cons, List.sum_cons, ih]
              show 1 + r.length = r.length + 1
              omega
          exact this t
        rw [e, List.length_map]
        show t.length + t.length * 0 ≤ 16777216
        omega
      · have e : Txt.join (PySem.Str.ofString "") (t.map fun c => S [c]) = S t := by
          have := join_S (t.map fun c => [c])
          rw [List.map_map] at this
          have e2 : (t.map fun c => [c]).flatten = t := by
            induction t with
            | nil => rfl
            | cons c r ih =>
              show c :: (r.map fun c => [c]).flatten = c :: r
              congr 1
              have : ∀ r : List Nat, (r.map fun c => [c]).flatten = r := by
                intro r
                induction r with
                | nil => rfl
                | cons c r ih => show c :: (r.map fun c => [c]).flatten = c :: r; rw [ih]
              exact this r
          rw [e2] at this
          exact this
        rw [e]
        exact q H' t sm ht tk
end
end TW

set_option Elab.async false
set_option linter.all false
set_option maxRecDepth 100000
set_option maxHeartbeats 4000000
namespace TW
open PySem PySem.Spec PyProof.Rows L2
/-! ### lists of texts -/
def txs (ps : List (List Nat)) : List V := (ps.map S).map V.str
theorem txs_len (ps : List (List Nat)) : (txs ps).length = ps.length := by
  unfold txs
  rw [List.length_map, List.length_map]
theorem txs_snoc (ps : List (List Nat)) (p : List Nat) : txs (ps ++ [p]) = txs ps ++ [V.str (S p)] := by
  unfold txs
  rw [List.map_append, List.map_append]
  rfl
theorem txs_get {ps : List (List Nat)} {i : Nat} (h : i < ps.length) : (txs ps)[i]? = some (V.str (S (ps.getD i []))) := by
  unfold txs
  rw [List.getElem?_map, List.getElem?_map, List.getElem?_eq_getElem h, List.getD_eq_getElem?_getD, List.getElem?_eq_getElem h]
  rfl
theorem S_codes' (l : List Nat) : (S l).cps.toList = l := by
  show l.toArray.toList = l
  simp
theorem take_more {α : Type} {l : List α} {i : Nat} {x : α} (h : l[i]? = some x) : l.take (i + 1) = l.take i ++ [x] := by
  rw [List.take_succ, h]
  rfl
theorem mem_of_get {α : Type} {l : List α} {i : Nat} {x : α} (h : l[i]? = some x) : x ∈ l := List.mem_of_getElem? h
theorem moved_more {bs : List Int} {ps : List (List Nat)} {i : Nat} {b : Int} (h : bs[i]? = some b) : moved (bs.take (i + 1)) ps = moved (bs.take i) ps ++ [mv ps b] := by
  unfold moved
  rw [take_more h, List.map_append]
  rfl
def sumN (l : List Int) : Nat := (l.map Int.toNat).sum
theorem sumN_more {l : List Int} {i : Nat} {x : Int} (h : l[i]? = some x) : sumN (l.take (i + 1)) = sumN (l.take i) + x.toNat := by
  unfold sumN
  rw [take_more h, List.map_append, List.sum_append]
  rfl
theorem pieces_more {t : List Nat} {l : List Int} {i : Nat} {x : Int} (h : l[i]? = some x) : pieces t 0 (l.take (i + 1)) = pieces t 0 (l.take i) ++ [(t.drop (sumN (l.take i))).take x.toNat] := by
  rw [take_more h, pieces_append, Nat.zero_add]
  rfl
theorem cut_S (t : List Nat) (a n : Nat) : L2.cutS (S t) (some (a : Int)) (some ((a + n : Nat) : Int)) = S ((t.drop a).take n) := by
  unfold L2.cutS
  rw [S_codes', HT.sIx_nat, HT.sIx_nat, S_len]
  show S _ = S _
  congr 1
  by_cases h : a ≤ t.length
  · rw [Nat.min_eq_left h]
    by_cases h2 : a + n ≤ t.length
    · rw [Nat.min_eq_left h2, Nat.add_sub_cancel_left]
    · rw [Nat.min_eq_right (by omega)]
      rw [List.take_of_length_le (by rw [List.length_drop]; exact Nat.le_refl _), List.take_of_length_le (by rw [List.length_drop]; omega)]
  · rw [List.drop_eq_nil_of_le (as := t) (i := a) (by omega), List.drop_eq_nil_of_le (as := t) (i := min a t.length) (by omega), List.take_nil, List.take_nil]

/-! ### _law_moved -/
def Fits (bs : List Int) (ps : List (List Nat)) : Prop := ∀ b ∈ bs, 1 ≤ b.natAbs ∧ b.natAbs ≤ ps.length
def spMoved (K : PySem.W.Frag) : Sp := fun vs H Q _ => ∃ (a b : Addr) (bs : List Int) (ps : List (List Nat)), vs = [.ref a, .ref b] ∧ SqT K H a (bs.map V.int) ∧ SqL K H b (txs ps) ∧ Fits bs ps ∧ bs.length ≤ 30 ∧ (∀ p ∈ ps, p.length ≤ 30) ∧
  ∀ (H' : Hp) (p : Addr), Same H H' → H p = none → H' p = some (.lst (txs (moved bs ps))) → Q (.ref p) H'
theorem getD_le {ps : List (List Nat)} {i : Nat} (h : ∀ p ∈ ps, p.length ≤ 30) : (ps.getD i []).length ≤ 30 := by
  rw [List.getD_eq_getElem?_getD]
  cases e : ps[i]? with
  | none => exact Nat.zero_le _
  | some p => exact h p (List.mem_of_getElem? e)
section
variable {P : Program} {w : World} {K : PySem.W.Frag} {mg : Str → Option Value} {base : Heap}
theorem sc_moved : FnScope ["_law_blocks_here", "_law_texts", "_law_out", "_law_block"] ["_law_blocks_here", "_law_texts"] (defScope (topS 25)) := ⟨rfl, rfl, rfl, by decide +kernel, rfl, by decide +kernel, by decide +kernel⟩
theorem ok_moved (A : At K mg "_law_moved" (topS 25)) (T : Nm mg) : Ok P w K mg base CX0 1 "_law_moved" ["_law_blocks_here", "_law_texts"] (spMoved K) := by
  refine mk_ok A sc_moved (fun _ _ _ _ _ _ us hl => match us, hl with | [_, _], _ => rfl) (fun vs H Q E h => ?_) (fun f cdv A outer s H vs Q E hr h => ?_)
  · obtain ⟨a, b, bs, ps, rfl, _⟩ := h
    rfl
  · obtain ⟨a, b, bs, ps, rfl, hA, hB, fit, h30, hp30, q⟩ := h
    refine ⟨_, pss_cons (ps_set (i := 2) sc_moved.nd rfl (.inl rfl) (pe_lst pa_nil))
      (pss_cons (ps_for PassesOwn.never rfl (pi_tup (pv 0)) (pg_name (i := 3) sc_moved.nd rfl (.inl rfl))
        (pss_one (ps_if (pt_cmpR op_gt (pv 3) pe_int (nomark _))
          (pss_one (ps_expr (pe_bm PySem.F.plainAttrs_list PySem.F.slot_list_append PySem.F.type_list_append mt_append (pv 2) (pa_cons (pe_ix ix_list (pv 1) (pe_op op_sub (pv 3) pe_int) (fun _ _ => rfl)) pa_nil))))
          (pss_one (ps_expr (pe_bm PySem.F.plainAttrs_list PySem.F.slot_list_append PySem.F.type_list_append mt_append (pv 2) (pa_cons (pe_revT (pe_ix ix_list (pv 1) (pe_op op_sub (pe_op op_sub pe_int (pv 3)) pe_int) (fun _ _ => rfl))) pa_nil)))))))
      (pss_one (ps_ret (pv 2)))), ?_⟩
    refine ⟨Nat.zero_le _, fun o no => ?_⟩
    refine ⟨_, rfl, a, rfl, ⟨_, Same.seqT (same_new no) hA⟩, for_tup (K := K) (a := a) (xs := bs.map V.int) (fun i σ H' => ∃ v3, σ = [some (.ref a), some (.ref b), some (.ref o), v3] ∧ Same H H' ∧ H' o = some (.lst (txs (moved (bs.take i) ps))))
      ⟨none, rfl, same_new no, upd_same⟩ (fun i σ H' _ ⟨_, _, sm, _⟩ => Same.seqT sm hA) ?_ ?_⟩
    · rintro i x σ H' hx ⟨v3, rfl, sm, ho⟩
      obtain ⟨n, rfl, hn⟩ := int_of hx
      obtain ⟨n1, n2⟩ := fit n (List.mem_of_getElem? hn)
      have hil : i < bs.length := (List.getElem?_eq_some_iff.mp hn).1
      have hB' := sm.seq hB
      have small : (txs (moved (bs.take i) ps)).length < sizeLine := by
        rw [txs_len]
        unfold moved
        rw [List.length_map, List.length_take]
        exact line_gt (by omega)
      refine ⟨_, rfl, _, _, rfl, rfl, _, rfl, ite2 (fun e => ?_) (fun e => ?_)⟩
      · have e1 : 0 < n := of_decide_eq_true e
        have em : mv ps n = ps.getD (n - 1).toNat [] := if_pos e1
        refine ⟨_, rfl, .inl ⟨rfl, _, SqL.of ho⟩, _, rfl, _, rfl, _, _, rfl, rfl, b, _, _, _, rfl, rfl, hB', at_of (j := (n - 1).toNat) (by omega) (txs_get (by omega)), o, _, _, rfl, rfl, ho, small, some (.int n), rfl, same_put no sm, ?_⟩
        rw [upd_same, moved_more hn, txs_snoc, em]
      · have e1 : ¬ 0 < n := fun z => e (decide_eq_true z)
        have em : mv ps n = (ps.getD (-n - 1).toNat []).reverse := if_neg e1
        have e2 : (0 : Int) - n - 1 = -n - 1 := by omega
        refine ⟨_, rfl, .inl ⟨rfl, _, SqL.of ho⟩, _, rfl, _, rfl, _, _, rfl, rfl, _, _, rfl, rfl, b, _, _, _, rfl, rfl, hB', at_of (j := (-n - 1).toNat) (by show (0 : Int) - n - 1 = _; omega) (txs_get (by omega)), _, rfl, ?_, o, _, _, rfl, rfl, ho, small, some (.int n), rfl, same_put no sm, ?_⟩
        · rw [S_len]
          exact line_ge (Nat.le_trans (getD_le hp30) (by decide))
        · rw [upd_same, moved_more hn, txs_snoc, em, S_codes']
          rfl
    · rintro σ H' ⟨v3, rfl, sm, ho⟩
      rw [List.length_map, List.take_length] at ho
      exact ⟨_, rfl, q H' o sm no ho⟩

/-! ### _law_cut, pieces_of -/
def spCut (K : PySem.W.Frag) : Sp := fun vs H Q _ => ∃ (a : Addr) (t : List Nat) (l : List Int), vs = [.str (S t), .ref a] ∧ SqT K H a (l.map V.int) ∧ (∀ x ∈ l, 0 ≤ x) ∧ l.length ≤ 30 ∧ t.length ≤ 30 ∧
  ∀ (H' : Hp) (p : Addr), Same H H' → H p = none → H' p = some (.lst (txs (pieces t 0 l))) → Q (.ref p) H'
theorem sc_cut : FnScope ["_law_text_here", "_law_lengths", "_law_pieces", "_law_at", "_law_length"] ["_law_text_here", "_law_lengths"] (defScope (topS 26)) := ⟨rfl, rfl, rfl, by decide +kernel, rfl, by decide +kernel, by decide +kernel⟩
theorem sc_pieces : FnScope ["text", "lengths", "pieces", "begin", "length"] ["text", "lengths"] (defScope (topS 10)) := ⟨rfl, rfl, rfl, by decide +kernel, rfl, by decide +kernel, by decide +kernel⟩
theorem ok_cut (A : At K mg "_law_cut" (topS 26)) (T : Nm mg) : Ok P w K mg base CX0 1 "_law_cut" ["_law_text_here", "_law_lengths"] (spCut K) := by
  refine mk_ok A sc_cut (fun _ _ _ _ _ _ us hl => match us, hl with | [_, _], _ => rfl) (fun vs H Q E h => ?_) (fun f cdv A outer s H vs Q E hr h => ?_)
  · obtain ⟨a, t, l, rfl, _⟩ := h
    rfl
  · obtain ⟨a, t, l, rfl, hA, hpos, h30, ht30, q⟩ := h
    refine ⟨_, pss_cons (ps_set (i := 2) sc_cut.nd rfl (.inl rfl) (pe_lst pa_nil))
      (pss_cons (ps_set (i := 3) sc_cut.nd rfl (.inl rfl) pe_int)
      (pss_cons (ps_for PassesOwn.never rfl (pi_tup (pv 1)) (pg_name (i := 4) sc_cut.nd rfl (.inl rfl))
        (pss_cons (ps_expr (pe_bm PySem.F.plainAttrs_list PySem.F.slot_list_append PySem.F.type_list_append mt_append (pv 2) (pa_cons (pe_slice sl_str (pv 0) (po_some (pv 3)) (po_some (pe_op op_add (pv 3) (pv 4)))) pa_nil)))
          (pss_one (ps_set (i := 3) sc_cut.nd rfl (.inl rfl) (pe_op op_add (pv 3) (pv 4))))))
      (pss_one (ps_ret (pv 2))))), ?_⟩
    refine ⟨Nat.zero_le _, fun o no => ?_⟩
    refine ⟨_, rfl, a, rfl, ⟨_, Same.seqT (same_new no) hA⟩, for_tup (K := K) (a := a) (xs := l.map V.int) (fun i σ H' => ∃ v4, σ = [some (.str (S t)), some (.ref a), some (.ref o), some (.int (sumN (l.take i) : Nat)), v4] ∧ Same H H' ∧ H' o = some (.lst (txs (pieces t 0 (l.take i)))))
      ⟨none, rfl, same_new no, upd_same⟩ (fun i σ H' _ ⟨_, _, sm, _⟩ => Same.seqT sm hA) ?_ ?_⟩
    · rintro i x σ H' hx ⟨v4, rfl, sm, ho⟩
      obtain ⟨n, rfl, hn⟩ := int_of hx
      have hn0 := hpos n (List.mem_of_getElem? hn)
      have hil : i < l.length := (List.getElem?_eq_some_iff.mp hn).1
      have small : (txs (pieces t 0 (l.take i))).length < sizeLine := by
        rw [txs_len, pieces_len, List.length_take]
        exact line_gt (by omega)
      have e1 : ((sumN (l.take i) : Nat) : Int) + n = ((sumN (l.take i) + n.toNat : Nat) : Int) := by omega
      refine ⟨_, rfl, .inl ⟨rfl, _, SqL.of ho⟩, _, rfl, _, rfl, _, rfl, _, rfl, _, rfl, _, _, rfl, rfl, _, rfl, S t, rfl, ?_, o, _, _, rfl, rfl, ho, small, ?_⟩
      · rw [S_len]
        exact line_ge (Nat.le_trans ht30 (by decide))
      · refine ⟨_, rfl, _, rfl, _, _, rfl, rfl, some (.int n), ?_, same_put no sm, ?_⟩
        · rw [sumN_more hn, ← e1]
          rfl
        · rw [upd_same, pieces_more hn, txs_snoc, e1, cut_S]
    · rintro σ H' ⟨v4, rfl, sm, ho⟩
      rw [List.length_map, List.take_length] at ho
      exact ⟨_, rfl, q H' o sm no ho⟩
theorem ok_pieces (A : At K mg "pieces_of" (topS 10)) (T : Nm mg) : Ok P w K mg base CX0 1 "pieces_of" ["text", "lengths"] (spCut K) := by
  refine mk_ok A sc_pieces (fun _ _ _ _ _ _ us hl => match us, hl with | [_, _], _ => rfl) (fun vs H Q E h => ?_) (fun f cdv A outer s H vs Q E hr h => ?_)
  · obtain ⟨a, t, l, rfl, _⟩ := h
    rfl
  · obtain ⟨a, t, l, rfl, hA, hpos, h30, ht30, q⟩ := h
    refine ⟨_, pss_cons (ps_set (i := 2) sc_pieces.nd rfl (.inl rfl) (pe_lst pa_nil))
      (pss_cons (ps_set (i := 3) sc_pieces.nd rfl (.inl rfl) pe_int)
      (pss_cons (ps_for PassesOwn.never rfl (pi_tup (pv 1)) (pg_name (i := 4) sc_pieces.nd rfl (.inl rfl))
        (pss_cons (ps_expr (pe_bm PySem.F.plainAttrs_list PySem.F.slot_list_append PySem.F.type_list_append mt_append (pv 2) (pa_cons (pe_slice sl_str (pv 0) (po_some (pv 3)) (po_some (pe_op op_add (pv 3) (pv 4)))) pa_nil)))
          (pss_one (ps_aug (i := 3) sc_pieces.nd rfl (.inl rfl) (pv 4) ip_add))))
      (pss_one (ps_ret (pv 2))))), ?_⟩
    refine ⟨Nat.zero_le _, fun o no => ?_⟩
    refine ⟨_, rfl, a, rfl, ⟨_, Same.seqT (same_new no) hA⟩, for_tup (K := K) (a := a) (xs := l.map V.int) (fun i σ H' => ∃ v4, σ = [some (.str (S t)), some (.ref a), some (.ref o), some (.int (sumN (l.take i) : Nat)), v4] ∧ Same H H' ∧ H' o = some (.lst (txs (pieces t 0 (l.take i)))))
      ⟨none, rfl, same_new no, upd_same⟩ (fun i σ H' _ ⟨_, _, sm, _⟩ => Same.seqT sm hA) ?_ ?_⟩
    · rintro i x σ H' hx ⟨v4, rfl, sm, ho⟩
      obtain ⟨n, rfl, hn⟩ := int_of hx
      have hn0 := hpos n (List.mem_of_getElem? hn)
      have hil : i < l.length := (List.getElem?_eq_some_iff.mp hn).1
      have small : (txs (pieces t 0 (l.take i))).length < sizeLine := by
        rw [txs_len, pieces_len, List.length_take]
        exact line_gt (by omega)
      have e1 : ((sumN (l.take i) : Nat) : Int) + n = ((sumN (l.take i) + n.toNat : Nat) : Int) := by omega
      refine ⟨_, rfl, .inl ⟨rfl, _, SqL.of ho⟩, _, rfl, _, rfl, _, rfl, _, rfl, _, rfl, _, _, rfl, rfl, _, rfl, S t, rfl, ?_, o, _, _, rfl, rfl, ho, small, ?_⟩
      · rw [S_len]
        exact line_ge (Nat.le_trans ht30 (by decide))
      · refine ⟨_, rfl, _, rfl, _, _, rfl, rfl, some (.int n), ?_, same_put no sm, ?_⟩
        · rw [sumN_more hn, ← e1]
          rfl
        · rw [upd_same, pieces_more hn, txs_snoc, e1, cut_S]
    · rintro σ H' ⟨v4, rfl, sm, ho⟩
      rw [List.length_map, List.take_length] at ho
      exact ⟨_, rfl, q H' o sm no ho⟩

/-! ### _law_blocks -/
def spBlocks (K : PySem.W.Frag) : Sp := fun vs H Q _ => ∃ (a : Addr) (ds : List Int) (m : Nat) (sg : Bool), vs = [.ref a, .int (m : Int), .bl sg] ∧ SqL K H a (ds.map V.int) ∧ ds.length = m ∧ m ≤ 30 ∧
  ∀ (H' : Hp) (p : Addr) (bs : List Int), Same H H' → H p = none → H' p = some (.tup (bs.map V.int)) → (bs.map Int.natAbs).Perm (List.range' 1 m) → Q (.ref p) H'
theorem perm_put {bs : List Int} {i j : Nat} {b : Int} (h : (bs.map Int.natAbs).Perm (List.range' 1 i)) (hb : b.natAbs = i + 1) : ((bs.take j ++ [b] ++ bs.drop j).map Int.natAbs).Perm (List.range' 1 (i + 1)) := by
  rw [List.range'_1_concat, List.map_append, List.map_append, Nat.add_comm 1 i]
  have e : bs.map Int.natAbs = (bs.take j).map Int.natAbs ++ (bs.drop j).map Int.natAbs := by rw [← List.map_append, List.take_append_drop]
  have h2 : ((bs.take j).map Int.natAbs ++ [b].map Int.natAbs ++ (bs.drop j).map Int.natAbs).Perm (((bs.take j).map Int.natAbs ++ (bs.drop j).map Int.natAbs) ++ [b].map Int.natAbs) := by
    rw [List.append_assoc, List.append_assoc]
    exact List.Perm.append_left _ List.perm_append_comm
  refine h2.trans ?_
  rw [← e]
  have e3 : [b].map Int.natAbs = [i + 1] := by rw [← hb]; rfl
  rw [e3]
  exact h.append_right _
theorem sc_blocks : FnScope ["_law_cell_here", "_law_many", "_law_signed", "_law_order", "_law_k", "_law_draw", "_law_block"] ["_law_cell_here", "_law_many", "_law_signed"] (defScope (topS 24)) := ⟨rfl, rfl, rfl, by decide +kernel, rfl, by decide +kernel, by decide +kernel⟩
theorem ok_blocks (A : At K mg "_law_blocks" (topS 24)) (T : Nm mg) : Ok P w K mg base CX0 1 "_law_blocks" ["_law_cell_here", "_law_many", "_law_signed"] (spBlocks K) := by
  refine mk_ok A sc_blocks (fun _ _ _ _ _ _ us hl => match us, hl with | [_, _, _], _ => rfl) (fun vs H Q E h => ?_) (fun f cdv A outer s H vs Q E hr h => ?_)
  · obtain ⟨a, ds, m, sg, rfl, _⟩ := h
    rfl
  · obtain ⟨a, ds, m, sg, rfl, hA, hdl, hm, q⟩ := h
    have hi : bootBuiltins "int" = some (.type "int") := by decide +kernel
    refine ⟨_, pss_cons (ps_set (i := 3) sc_blocks.nd rfl (.inl rfl) (pe_lst pa_nil))
      (pss_cons (ps_for PassesOwn.never rfl (pi_range1 rfl T.range (pa_cons (pv 1) pa_nil)) (pg_name (i := 4) sc_blocks.nd rfl (.inl rfl))
        (pss_cons (ps_set (i := 5) sc_blocks.nd rfl (.inl rfl) (pe_ix ix_list (pv 0) (pv 4) (fun _ _ => rfl)))
        (pss_cons (ps_set (i := 6) sc_blocks.nd rfl (.inl rfl) (pe_op op_add (pv 4) pe_int))
        (pss_cons (ps_if (PW.pt (pw_and (pt_val (pv 2)) (pw_and1 (pt_cmpR op_eq (pe_op op_mod (pe_callTy call_int1 (by rfl) T.int hi (pa_cons (pe_op op_fdiv (pv 5) pe_int) pa_nil)) pe_int) pe_int (nomark _)))))
            (pss_one (ps_set (i := 6) sc_blocks.nd rfl (.inl rfl) (pe_op op_sub pe_int (pv 6)))) pss_nil)
        (pss_one (ps_expr (pe_bm PySem.F.plainAttrs_list PySem.F.slot_list_insert PySem.F.type_list_insert mt_insert (pv 3) (pa_cons (pe_op op_mod (pe_callTy call_int1 (by rfl) T.int hi (pa_cons (pv 5) pa_nil)) (pe_op op_add (pv 4) pe_int)) (pa_cons (pv 6) pa_nil)))))))))
      (pss_one (ps_ret (pe_tupleOf rfl T.tuple (pv 3))))), ?_⟩
    refine ⟨Nat.zero_le _, fun o no => ?_⟩
    refine ⟨_, rfl, (m : Int), rfl, by omega, by omega, for_range (lo := 0) (n := (m : Int).toNat) (fun i σ H' => ∃ (bs : List Int) (v4 v5 v6 : Option V), σ = [some (.ref a), some (.int (m : Int)), some (.bl sg), some (.ref o), v4, v5, v6] ∧ Same H H' ∧ H' o = some (.lst (bs.map V.int)) ∧ bs.length = i ∧ (bs.map Int.natAbs).Perm (List.range' 1 i))
      ⟨[], none, none, none, rfl, same_new no, upd_same, rfl, List.Perm.refl _⟩ ?_ ?_⟩
    · rintro i σ H' hi' ⟨bs, v4, v5, v6, rfl, sm, ho, hl, hp⟩
      have him : i < ds.length := by omega
      have h0i : (0 : Int) + (i : Int) = (i : Int) := by omega
      refine ⟨_, rfl, _, rfl, a, _, _, .int ds[i], rfl, rfl, sm.seq hA, at_of h0i (int_at (List.getElem?_eq_getElem him)), _, rfl, _, _, rfl, rfl, ?_⟩
      have small : (bs.map V.int).length < sizeLine := by
        rw [List.length_map, hl]
        exact line_gt (by omega)
      have g0 : 0 ≤ ds[i] % ((i : Int) + 1) := Int.emod_nonneg _ (by omega)
      have g1 : ds[i] % ((i : Int) + 1) < (i : Int) + 1 := Int.emod_lt_of_pos _ (by omega)
      -- behind the if: the block b
      have tail : ∀ b : Int, b.natAbs = i + 1 → tDrop (tBM K "list" (fun x vs H Q => ∃ (l : Addr) (xs : List V) (i : Int) (y : V), x = .ref l ∧ vs = [.int i, y] ∧ H l = some (.lst xs) ∧ xs.length < sizeLine ∧ 0 ≤ i ∧ i < 2 ^ 63 ∧ Q .non (upd H l (.lst (xs.take i.toNat ++ [y] ++ xs.drop i.toNat)))) (tVar 3)
          (tCons (tOp (rI (fun _ j => 0 < j) fun i j => .int (i % j)) (tCB (fun xs H Q => (∃ i, xs = [.int i] ∧ Q (.int i) H) ∨ ∃ k, xs = [.bl k] ∧ Q (.int (if k then 1 else 0)) H) (tCons (tVar 5) tNil)) (tOp (rI0 fun i j => .int (i + j)) (tVar 4) (tC (.int 1)))) (tCons (tVar 6) tNil)))
          { nx := fun σ H' => ∃ (bs : List Int) (v4 v5 v6 : Option V), σ = [some (.ref a), some (.int (m : Int)), some (.bl sg), some (.ref o), v4, v5, v6] ∧ Same H H' ∧ H' o = some (.lst (bs.map V.int)) ∧ bs.length = i + 1 ∧ (bs.map Int.natAbs).Perm (List.range' 1 (i + 1)), rt := Q,
            ct := fun σ H' => ∃ (bs : List Int) (v4 v5 v6 : Option V), σ = [some (.ref a), some (.int (m : Int)), some (.bl sg), some (.ref o), v4, v5, v6] ∧ Same H H' ∧ H' o = some (.lst (bs.map V.int)) ∧ bs.length = i + 1 ∧ (bs.map Int.natAbs).Perm (List.range' 1 (i + 1)), bk := fun σ H' => tRet (tThen (tVar 3) (kTup K)) { nx := fun _ H' => Q .non H', rt := Q } σ H' }
          [some (.ref a), some (.int (m : Int)), some (.bl sg), some (.ref o), some (.int ((0 : Int) + (i : Int))), some (.int ds[i]), some (.int b)] H' := fun b hb => by
        refine ⟨_, rfl, .inl ⟨rfl, _, SqL.of ho⟩, _, rfl, .inl ⟨_, rfl, _, rfl, _, _, rfl, rfl, _, _, rfl, rfl, (by show (0 : Int) < 0 + (i : Int) + 1; omega), _, rfl, o, _, _, _, rfl, rfl, ho, small, ?_, ?_, ?_⟩⟩
        · show 0 ≤ ds[i] % (0 + (i : Int) + 1)
          rw [h0i]
          exact g0
        · show ds[i] % (0 + (i : Int) + 1) < 2 ^ 63
          rw [h0i]
          omega
        · refine ⟨bs.take (ds[i] % (0 + (i : Int) + 1)).toNat ++ [b] ++ bs.drop (ds[i] % (0 + (i : Int) + 1)).toNat, _, _, _, rfl, same_put no sm, ?_, ?_, perm_put hp hb⟩
          · rw [upd_same, List.map_append, List.map_append, List.map_take, List.map_drop]
            rfl
          · rw [List.length_append, List.length_append, List.length_take, List.length_drop, hl]
            show min _ i + 1 + (i - _) = i + 1
            omega
      refine ⟨_, rfl, sg, rfl, ?_⟩
      cases sg with
      | true =>
        refine iteT ⟨_, rfl, _, _, rfl, rfl, ⟨by decide, by decide⟩, .inl ⟨_, rfl, _, _, rfl, rfl, (by show (0 : Int) < 2; decide), rfl, _, rfl, ite2 (fun e => ?_) (fun e => ?_)⟩⟩
        · exact ⟨_, rfl, _, _, rfl, rfl, tail (0 - ((0 : Int) + (i : Int) + 1)) (by omega)⟩
        · exact tail ((0 : Int) + (i : Int) + 1) (by omega)
      | false => exact iteF (iteF (tail ((0 : Int) + (i : Int) + 1) (by omega)))
    · rintro σ H' ⟨bs, v4, v5, v6, rfl, sm, ho, hl, hp⟩
      refine ⟨_, rfl, .inl ⟨o, _, rfl, SqL.of ho, fun p np => ?_⟩⟩
      exact q _ p bs (same_put (sm.free np) sm) (sm.free np) upd_same hp
end
end TW

set_option Elab.async false
set_option linter.all false
set_option maxRecDepth 100000
set_option maxHeartbeats 4000000
namespace TW
open PySem PySem.Spec PyProof.Rows L2
/-! ### lists of tuples that grow -/
theorem Tups.put {H : Hp} {o : Addr} {zs zs' : List V} (h : H o = some (.lst zs)) : ∀ {ys : List V} {L : List (List Int)}, Tups H ys L → Tups (upd H o (.lst zs')) ys L
  | _, _, .nil => .nil
  | _, _, .cons e r => .cons (by rw [upd_ne (ne_of e h (by intro z; cases z))]; exact e) (Tups.put h r)
/-- at o a list of the tuples L, made since H0; what stood in H0 stands -/
structure Bld (H0 H : Hp) (o : Addr) (L : List (List Int)) : Prop where
  new : H0 o = none
  same : Same H0 H
  ex : ∃ ys, H o = some (.lst ys) ∧ Tups H ys L
def Keep (o : Addr) (H H' : Hp) : Prop := ∀ b x, b ≠ o → H b = some x → H' b = some x
theorem Keep.refl (o : Addr) (H : Hp) : Keep o H H := fun _ _ _ e => e
theorem Keep.trans {o : Addr} {H H1 H2 : Hp} (a : Keep o H H1) (b : Keep o H1 H2) : Keep o H H2 := fun c x n e => b c x n (a c x n e)
theorem Same.keep {o : Addr} {H H' : Hp} (s : Same H H') : Keep o H H' := fun c x _ e => s c x e
theorem Bld.mono {H0 H H1 : Hp} {o : Addr} {L : List (List Int)} (b : Bld H0 H o L) (s : Same H H1) : Bld H0 H1 o L := by
  obtain ⟨ys, e, T⟩ := b.ex
  exact ⟨b.new, b.same.trans s, ys, s _ _ e, T.mono s⟩
theorem Bld.start {H0 H : Hp} {o : Addr} (s : Same H0 H) (n : H o = none) : Bld H0 (upd H o (.lst [])) o [] := ⟨s.free n, same_put (s.free n) s, [], upd_same, .nil⟩
theorem Bld.add {H0 H H1 : Hp} {o q : Addr} {L : List (List Int)} {ys : List V} {p : List Int} (n : H0 o = none) (s0 : Same H0 H) (e : H o = some (.lst ys)) (T : Tups H ys L) (s : Same H H1) (hq : H1 q = some (.tup (p.map V.int))) :
    Bld H0 (upd H1 o (.lst (ys ++ [.ref q]))) o (L ++ [p]) := by
  have e1 : H1 o = some (.lst ys) := s _ _ e
  refine ⟨n, same_put n (s0.trans s), _, upd_same, Tups.snoc ?_ (Tups.put e1 (T.mono s))⟩
  rw [upd_ne (ne_of hq e1 (by intro z; cases z))]
  exact hq
theorem Keep.put {o : Addr} {H H1 : Hp} {u : HO} (s : Same H H1) : Keep o H (upd H1 o u) := fun b x n e => by
  rw [upd_ne n]
  exact s _ _ e
/-- parts + (size,) -/
theorem cat_val {K : PySem.W.Frag} {H : Hp} {t : Addr} {p : List Int} {s : Int} {Q : VK} (ht : H t = some (.tup (p.map V.int))) (hl : p.length ≤ 100)
    (q : ∀ (H' : Hp) (a : Addr), Same H H' → H a = none → H' a = some (.tup ((p ++ [s]).map V.int)) → Q (.ref a) H') :
    [V.int s].length ≤ sizeLine ∧ ∀ a, H a = none → rCatA K (.ref t) (.ref a) (upd H a (.tup [V.int s])) Q := by
  refine ⟨line_ge (by show 1 ≤ 16777216; decide), fun a na => ⟨t, a, p.map V.int, [V.int s], rfl, rfl, SqT.of (by rw [upd_ne (ne_of_none ht na)]; exact ht), SqT.of upd_same, ?_, fun e => ?_, fun _ e => (by cases e), fun _ _ b nb => ?_⟩⟩
  · rw [List.length_map]
    exact line_ge (by show p.length + 1 ≤ 16777216; omega)
  · have e2 : p = [] := List.map_eq_nil_iff.mp e
    subst e2
    exact q _ a (same_new na) na upd_same
  · have nb' : H b = none := (same_new (o := .tup [V.int s]) na).free nb
    refine q _ b (same_put nb' (same_new na)) nb' ?_
    rw [upd_same, List.map_append]
    rfl
/-- longer.append(parts + (size,)) -/
theorem rd_app {K : PySem.W.Frag} {H0 H : Hp} {o t : Addr} {L : List (List Int)} {p : List Int} {s : Int} {σ : L2.St} {D : Ends} {iO iP iS : Nat} (hO : σ[iO]? = some (some (.ref o))) (hP : σ[iP]? = some (some (.ref t))) (hS : σ[iS]? = some (some (.int s)))
    (b : Bld H0 H o L) (ht : H t = some (.tup (p.map V.int))) (hp : p.length ≤ 100) (hL : L.length < 16777216) (q : ∀ H', Bld H0 H' o (L ++ [p ++ [s]]) → Keep o H H' → D.nx σ H') :
    tDrop (tBM K "list" rAppend (tVar iO) (tCons (tOp (rCatA K) (tVar iP) (tTup (tCons (tVar iS) tNil))) tNil)) D σ H := by
  obtain ⟨ys, ho, T⟩ := b.ex
  refine ⟨_, hO, .inl ⟨rfl, _, SqL.of ho⟩, _, hP, _, hS, cat_val ht hp fun H' a sm na ea => ?_⟩
  have hlen : ys.length < sizeLine := by
    rw [T.length]
    exact line_gt hL
  exact ⟨o, ys, _, rfl, rfl, sm _ _ ho, hlen, q _ (Bld.add b.new b.same ho T sm ea) (Keep.put sm)⟩

/-! ### for size in range(..): if ..: longer.append(parts + (size,)) -/
abbrev tApp (K : PySem.W.Frag) : TS := tDrop (tBM K "list" rAppend (tVar 4) (tCons (tOp (rCatA K) (tVar 5) (tTup (tCons (tVar 6) tNil))) tNil))
theorem rd_inner {K : PySem.W.Frag} {ta : TA} {tt : TT} {s0 s1 s2 s3 v6 : Option V} {o t : Addr} {p : List Int} {lo hi : Int} {test : Int → Bool} {H0 H : Hp} {L : List (List Int)} {D : Ends}
    (hta : ∀ (H : Hp) (Q : List V → Hp → Prop), H t = some (.tup (p.map V.int)) → Q [.int lo, .int hi] H → ta [s0, s1, s2, s3, some (.ref o), some (.ref t), v6] H Q)
    (htt : ∀ (b : Int) (H : Hp) (Q : Bool → Hp → Prop), H t = some (.tup (p.map V.int)) → Q (test b) H → tt [s0, s1, s2, s3, some (.ref o), some (.ref t), some (.int b)] H Q)
    (bnd : -(2 ^ 62) ≤ lo ∧ lo < 2 ^ 62 ∧ -(2 ^ 62) ≤ hi ∧ hi < 2 ^ 62) (b : Bld H0 H o L) (ht : H t = some (.tup (p.map V.int))) (hp : p.length ≤ 100)
    (hL : L.length + ((ran lo (hi - lo).toNat).filter test).length < 16777216)
    (q : ∀ v6 H', Bld H0 H' o (L ++ ((ran lo (hi - lo).toNat).filter test).map fun s => p ++ [s]) → Keep o H H' → D.nx [s0, s1, s2, s3, some (.ref o), some (.ref t), v6] H') :
    tFor (iRng2 ta) (gName 6) (tIfS tt (tApp K) tNext) D [s0, s1, s2, s3, some (.ref o), some (.ref t), v6] H := by
  refine hta H _ ht ⟨lo, hi, rfl, bnd, for_range (lo := lo) (n := (hi - lo).toNat) (fun j σ H' => ∃ v6, σ = [s0, s1, s2, s3, some (.ref o), some (.ref t), v6] ∧
      Bld H0 H' o (L ++ (((ran lo (hi - lo).toNat).take j).filter test).map fun s => p ++ [s]) ∧ Keep o H H') ⟨v6, rfl, by rw [List.take_zero]; simpa using b, Keep.refl _ _⟩ ?_ ?_⟩
  · rintro j σ H' hj ⟨v, rfl, b', kp⟩
    have hto : t ≠ o := by
      obtain ⟨ys, e, _⟩ := b.ex
      exact ne_of ht e (by intro z; cases z)
    have ht' := kp _ _ hto ht
    have hg : (ran lo (hi - lo).toNat)[j]? = some (lo + (j : Int)) := ran_get hj
    have em := take_more hg
    refine htt (lo + (j : Int)) H' _ ht' ?_
    cases ec : test (lo + (j : Int)) with
    | true =>
      refine rd_app (iO := 4) (iP := 5) (iS := 6) rfl rfl rfl b' ht' hp ?_ fun H2 b2 k2 => ⟨_, rfl, ?_, kp.trans k2⟩
      · have h1 : (((ran lo (hi - lo).toNat).take j).filter test).length ≤ ((ran lo (hi - lo).toNat).filter test).length :=
          (List.Sublist.filter test (List.take_sublist j (ran lo (hi - lo).toNat))).length_le
        rw [List.length_append, List.length_map]
        omega
      · rw [em, List.filter_append, List.map_append, ← List.append_assoc]
        have e2 : [lo + (j : Int)].filter test = [lo + (j : Int)] := by
          rw [List.filter_cons, if_pos ec]
          rfl
        rw [e2]
        exact b2
    | false =>
      refine ⟨_, rfl, ?_, kp⟩
      rw [em, List.filter_append]
      have e2 : [lo + (j : Int)].filter test = [] := by
        rw [List.filter_cons, if_neg (by rw [ec]; exact Bool.false_ne_true)]
        rfl
      rw [e2, List.append_nil]
      exact b'
  · rintro σ H' ⟨v, rfl, b', kp⟩
    rw [List.take_of_length_le (by rw [ran_len]; exact Nat.le_refl _)] at b'
    exact q v H' b' kp

/-! ### for parts in list(found): .. -/
abbrev tCopy (K : PySem.W.Frag) : TI := iList K (tCB (fun xs H Q => ∃ p ys, xs = [.ref p] ∧ (SqL K H p ys ∨ SqT K H p ys) ∧ ∀ l, H l = none → Q (.ref l) (upd H l (.lst ys))) (tCons (tVar 2) tNil))
theorem rd_mid {K : PySem.W.Frag} {tI : TS} {s0 s1 s3 v5 v6 : Option V} {f o : Addr} {xs : List V} {H0 H : Hp} {Sx : List Int → List Int} {E : List (List Int)} {D : Ends}
    (hI : ∀ (t : Addr) (p : List Int) (M : List (List Int)) (v6 : Option V) (H1 : Hp) (D' : Ends), p ∈ E → Bld H0 H1 o M → H1 t = some (.tup (p.map V.int)) → M.length + (Sx p).length < 16777216 →
      (∀ v6 H', Bld H0 H' o (M ++ (Sx p).map fun s => p ++ [s]) → Keep o H1 H' → D'.nx [s0, s1, some (.ref f), s3, some (.ref o), some (.ref t), v6] H') → tI D' [s0, s1, some (.ref f), s3, some (.ref o), some (.ref t), v6] H1)
    (hf : H f = some (.lst xs)) (T : Tups H xs E) (b : Bld H0 H o []) (hlen : (ext Sx E).length < 16777216)
    (q : ∀ v5 v6 H', Bld H0 H' o (ext Sx E) → D.nx [s0, s1, some (.ref f), s3, some (.ref o), v5, v6] H') :
    tFor (tCopy K) (gName 5) tI D [s0, s1, some (.ref f), s3, some (.ref o), v5, v6] H := by
  refine ⟨_, rfl, f, xs, rfl, .inl (SqL.of hf), fun l nl => ⟨l, rfl, ⟨_, SqL.of upd_same⟩, ?_⟩⟩
  have s2 : Same H (upd H l (.lst xs)) := same_new nl
  have lo : l ≠ o := by
    obtain ⟨ys, e, _⟩ := b.ex
    exact (ne_of_none e nl).symm
  refine for_list (K := K) (a := l) (xs := xs) (fun i σ H' => ∃ v5 v6, σ = [s0, s1, some (.ref f), s3, some (.ref o), v5, v6] ∧ Bld H0 H' o (ext Sx (E.take i)) ∧ Keep o (upd H l (.lst xs)) H')
    ⟨v5, v6, rfl, by rw [List.take_zero]; exact b.mono s2, Keep.refl _ _⟩ (fun i σ H' _ ⟨_, _, _, _, kp⟩ => SqL.of (kp _ _ lo upd_same)) ?_ ?_
  · rintro i x σ H' hx ⟨v5, v6, rfl, b', kp⟩
    obtain ⟨t, p, rfl, hp, ht⟩ := T.get hx
    have hto : t ≠ o := by
      obtain ⟨ys, e, _⟩ := b.ex
      exact ne_of ht e (by intro z; cases z)
    have em := take_more hp
    refine hI t p _ v6 H' _ (List.mem_of_getElem? hp) b' (kp _ _ hto (s2 _ _ ht)) ?_ fun v6' H2 b2 k2 => ⟨_, _, rfl, ?_, kp.trans k2⟩
    · have h1 : ext Sx (E.take (i + 1)) = ext Sx (E.take i) ++ (Sx p).map fun s => p ++ [s] := by rw [em, ext_append, ext_one]
      have h2 : (ext Sx E).length = (ext Sx (E.take (i + 1))).length + (ext Sx (E.drop (i + 1))).length := by
        rw [← List.length_append, ← ext_append, List.take_append_drop]
      rw [h1, List.length_append, List.length_map] at h2
      omega
    · rw [em, ext_append, ext_one]
      exact b2
  · rintro σ H' ⟨v5, v6, rfl, b', kp⟩
    rw [List.take_of_length_le (by rw [T.length]; exact Nat.le_refl _)] at b'
    exact q v5 v6 H' b'
/-- longer = []; for parts in list(found): ..; found = longer -/
theorem rd_turn {K : PySem.W.Frag} {tI : TS} {s0 s1 s3 v4 v5 v6 : Option V} {f : Addr} {H0 H : Hp} {Sx : List Int → List Int} {E : List (List Int)} {D : Ends}
    (hI : ∀ (o t : Addr) (p : List Int) (M : List (List Int)) (v6 : Option V) (H1 : Hp) (D' : Ends), p ∈ E → Bld H0 H1 o M → H1 t = some (.tup (p.map V.int)) → M.length + (Sx p).length < 16777216 →
      (∀ v6 H', Bld H0 H' o (M ++ (Sx p).map fun s => p ++ [s]) → Keep o H1 H' → D'.nx [s0, s1, some (.ref f), s3, some (.ref o), some (.ref t), v6] H') → tI D' [s0, s1, some (.ref f), s3, some (.ref o), some (.ref t), v6] H1)
    (b : Bld H0 H f E) (hlen : (ext Sx E).length < 16777216)
    (q : ∀ o v5 v6 H', Bld H0 H' o (ext Sx E) → D.nx [s0, s1, some (.ref o), s3, some (.ref o), v5, v6] H') :
    tSeq (tAsg (tLst tNil) (gName 4)) (tSeq (tFor (tCopy K) (gName 5) tI) (tAsg (tVar 4) (gName 2))) D [s0, s1, some (.ref f), s3, v4, v5, v6] H := by
  obtain ⟨xs, hf, T⟩ := b.ex
  refine ⟨Nat.zero_le _, fun o no => ?_⟩
  have s1' : Same H (upd H o (.lst [])) := same_new no
  exact rd_mid (hI o) (s1' _ _ hf) (T.mono s1') (Bld.start b.same no) hlen fun v5 v6 H' b' => ⟨_, rfl, q o v5 v6 H' b'⟩
end TW

set_option Elab.async false
set_option linter.all false
set_option maxRecDepth 100000
set_option maxHeartbeats 4000000
namespace TW
open PySem PySem.Spec PyProof.Rows L2
/-! ### the law's cuttings and orders -/
def spCuts : Sp := fun vs H Q _ => ∃ n m : Nat, vs = [.int (n : Int), .int (m : Int)] ∧ n ≤ 8 ∧ m ≤ 8 ∧ ∀ (H' : Hp) (p : Addr), Bld H H' p (cuts n m) → Q (.ref p) H'
def spOrders : Sp := fun vs H Q _ => ∃ (m : Nat) (sg : Bool), vs = [.int (m : Int), .bl sg] ∧ m ≤ 8 ∧ ∀ (H' : Hp) (p : Addr), Bld H H' p (ordL m sg m) → Q (.ref p) H'
theorem inV_int (b : Int) (p : List Int) : inV (.int b) (p.map V.int) = decide (b ∈ p) := by
  unfold inV
  induction p with
  | nil => rfl
  | cons a r ih =>
    rw [List.map_cons, List.any_cons, ih]
    show (a == b || decide (b ∈ r)) = decide (b ∈ a :: r)
    by_cases e : a = b
    · subst e
      simp
    · have e2 : (a == b) = false := by simpa using e
      rw [e2, Bool.false_or]
      have e3 : b ≠ a := fun z => e z.symm
      simp [e3]
theorem flat_ints (p : List Int) : (p.map V.int).all flatV = true := by
  rw [List.all_eq_true]
  intro v hv
  obtain ⟨n, _, rfl⟩ := List.mem_map.mp hv
  rfl
theorem sum_le_of {p : List Int} (h : ∀ x ∈ p, 1 ≤ x) : 0 ≤ p.sum := by
  induction p with
  | nil => exact Int.le_refl 0
  | cons a r ih =>
    have h1 := ih fun x hx => h x (List.mem_cons_of_mem _ hx)
    have h2 := h a List.mem_cons_self
    rw [List.sum_cons]
    omega
section
variable {P : Program} {w : World} {K : PySem.W.Frag} {mg : Str → Option Value} {base : Heap}
theorem sc_lcuts : FnScope ["_law_length", "_law_many", "_law_found", "_law_k", "_law_longer", "_law_parts", "_law_size"] ["_law_length", "_law_many"] (defScope (topS 27)) := ⟨rfl, rfl, rfl, by decide +kernel, rfl, by decide +kernel, by decide +kernel⟩
theorem ok_lcuts (A : At K mg "_law_cuttings" (topS 27)) (T : Nm mg) : Ok P w K mg base CX0 1 "_law_cuttings" ["_law_length", "_law_many"] spCuts := by
  refine mk_ok A sc_lcuts (fun _ _ _ _ _ _ us hl => match us, hl with | [_, _], _ => rfl) (fun vs H Q E h => ?_) (fun f cdv A outer s H vs Q E hr h => ?_)
  · obtain ⟨n, m, rfl, _⟩ := h
    rfl
  · obtain ⟨n, m, rfl, hn, hm, q⟩ := h
    have hi : bootBuiltins "int" = some (.type "int") := by decide +kernel
    have hs : bootBuiltins "sum" = some (.builtin "sum") := by decide +kernel
    have hli : bootBuiltins "list" = some (.type "list") := by decide +kernel
    refine ⟨_, pss_cons (ps_if (pt_cmpR op_eq (pv 1) pe_int (nomark _)) (pss_one (ps_ret (pe_op op_rep (pe_lst (pa_cons (pe_tup pa_nil) pa_nil)) (pe_callTy call_int1 (by rfl) T.int hi (pa_cons (pe_cmpR op_eq (pv 0) pe_int (nomark _)) pa_nil))))) pss_nil)
      (pss_cons (ps_set (i := 2) sc_lcuts.nd rfl (.inl rfl) (pe_lst (pa_cons (pe_tup pa_nil) pa_nil)))
      (pss_cons (ps_for PassesOwn.never rfl (pi_range1 rfl T.range (pa_cons (pv 1) pa_nil)) (pg_name (i := 3) sc_lcuts.nd rfl (.inl rfl))
        (pss_cons (ps_set (i := 4) sc_lcuts.nd rfl (.inl rfl) (pe_lst pa_nil))
        (pss_cons (ps_for PassesOwn.never rfl (pi_list (pe_callTy call_list_of (by rfl) T.list hli (pa_cons (pv 2) pa_nil))) (pg_name (i := 5) sc_lcuts.nd rfl (.inl rfl))
          (pss_one (ps_for PassesOwn.never rfl (pi_range2 (by rfl) T.range (pa_cons pe_int (pa_cons (pe_op op_add (pe_op op_sub (pv 0) (pe_callB (cr_sumT rfl) (by rfl) T.sum hs (pa_cons (pv 5) pa_nil))) pe_int) pa_nil))) (pg_name (i := 6) sc_lcuts.nd rfl (.inl rfl))
            (pss_one (ps_if (PW.pt (pw_or (pt_cmpR op_lt (pv 3) (pe_op op_sub (pv 1) pe_int) (nomark _)) (pw_or1 (pt_cmpR op_eq (pe_op op_add (pe_callB (cr_sumT rfl) (by rfl) T.sum hs (pa_cons (pv 5) pa_nil)) (pv 6)) (pv 0) (nomark _)))))
              (pss_one (ps_expr (pe_bm PySem.F.plainAttrs_list PySem.F.slot_list_append PySem.F.type_list_append mt_append (pv 4) (pa_cons (pe_op op_catA (pv 5) (pe_tup (pa_cons (pv 6) pa_nil))) pa_nil)))) pss_nil)))))
        (pss_one (ps_set (i := 2) sc_lcuts.nd rfl (.inl rfl) (pv 4))))))
      (pss_one (ps_ret (pv 2))))), ?_⟩
    refine ⟨_, rfl, rfl, _, rfl, ite2 (fun e => ?_) (fun e => ?_)⟩
    · have e0 : m = 0 := by
        have := V.int.inj (of_decide_eq_true e)
        omega
      subst e0
      refine ⟨line_ge (Nat.zero_le _), fun t nt => ⟨line_ge (by show 1 ≤ 16777216; decide), fun l nl => ?_⟩⟩
      have s1 : Same H (upd H t (.tup [])) := same_new nt
      have nl0 : H l = none := s1.free nl
      have tl : t ≠ l := ne_of_none upd_same nl
      refine ⟨_, rfl, rfl, .inr ⟨_, rfl, ?_⟩⟩
      by_cases hn0 : n = 0
      · subst hn0
        refine ⟨l, _, _, rfl, rfl, upd_same, (by decide), (by decide), line_ge (by show 1 * (1 : Int).toNat ≤ 16777216; decide), fun p np => q _ p ⟨?_, ?_, ?_⟩⟩
        · exact (same_put nl0 s1).free np
        · exact (same_put nl0 s1).trans (same_new np)
        · refine ⟨[.ref t], upd_same, .cons ?_ .nil⟩
          have tp : t ≠ p := ne_of_none (by rw [upd_ne tl]; exact upd_same) np
          rw [upd_ne tp, upd_ne tl]
          exact upd_same
      · have ed : decide (V.int (n : Int) = V.int 0) = false := decide_eq_false fun z => hn0 (by have := V.int.inj z; omega)
        rw [ed]
        refine ⟨l, _, _, rfl, rfl, upd_same, (by decide), (by decide), line_ge (by show 1 * (0 : Int).toNat ≤ 16777216; decide), fun p np => q _ p ⟨?_, ?_, ?_⟩⟩
        · exact (same_put nl0 s1).free np
        · exact (same_put nl0 s1).trans (same_new np)
        · refine ⟨[], upd_same, ?_⟩
          have ec : cuts n 0 = [] := by
            unfold cuts
            rw [if_pos rfl, if_neg hn0]
          rw [ec]
          exact .nil
    · have em : m ≠ 0 := fun z => e (decide_eq_true (by rw [z]; rfl))
      have ec : cuts n m = cutL n m m := if_neg em
      rw [ec] at q
      refine ⟨line_ge (Nat.zero_le _), fun t nt => ⟨line_ge (by show 1 ≤ 16777216; decide), fun f nf => ?_⟩⟩
      have s1 : Same H (upd H t (.tup [])) := same_new nt
      have tf : t ≠ f := ne_of_none upd_same nf
      have b0 : Bld H (upd (upd H t (.tup [])) f (.lst [.ref t])) f (cutL n m 0) := ⟨s1.free nf, same_put (s1.free nf) s1, [.ref t], upd_same, .cons (by rw [upd_ne tf]; exact upd_same) .nil⟩
      refine ⟨_, rfl, (m : Int), rfl, by omega, by omega, for_range (lo := 0) (n := (m : Int).toNat) (fun i σ H' => ∃ f v3 v4 v5 v6, σ = [some (.int (n : Int)), some (.int (m : Int)), some (.ref f), v3, v4, v5, v6] ∧ Bld H H' f (cutL n m i))
        ⟨f, none, none, none, none, rfl, b0⟩ ?_ ?_⟩
      · rintro i σ H' hi' ⟨f, v3, v4, v5, v6, rfl, b⟩
        have him : i < m := by omega
        refine rd_turn (Sx := cutS n m i) (fun o t p M v6 H1 D' hp bM ht hlen qq => ?_) b ?_ fun o v5 v6 H2 b2 => ⟨o, _, _, _, _, rfl, b2⟩
        · obtain ⟨p1, p2, p3, p4⟩ := cutL_sum_nonneg hp
          have ps : p.sum ≤ 8 := by
            by_cases c : 1 ≤ i
            · have := p4 c
              omega
            · have e0 : p = [] := List.length_eq_zero_iff.mp (by omega)
              rw [e0]
              decide
          refine rd_inner (lo := 1) (hi := (n : Int) - p.sum + 1) (test := fun s => decide ((i : Int) < (m : Int) - 1) || decide (p.sum + s = (n : Int))) (fun H Q ht' hq => ?_) (fun b H Q ht' hq => ?_) ⟨by omega, by omega, by omega, by omega⟩ bM ht (by omega) hlen qq
          · exact ⟨_, rfl, _, rfl, t, p, rfl, SqT.of ht', _, _, rfl, rfl, _, _, rfl, rfl, hq⟩
          · refine ⟨_, rfl, _, rfl, _, _, rfl, rfl, _, _, rfl, rfl, _, rfl, ite2 (fun e1 => ?_) (fun e1 => ?_)⟩
            · have e2 : (i : Int) < (m : Int) - 1 := by
                have := of_decide_eq_true e1
                omega
              rw [decide_eq_true e2] at hq
              exact hq
            · have e2 : ¬ (i : Int) < (m : Int) - 1 := fun z => e1 (decide_eq_true (by omega))
              rw [decide_eq_false e2, Bool.false_or] at hq
              refine ⟨_, rfl, t, p, rfl, SqT.of ht', _, rfl, _, _, rfl, rfl, _, rfl, rfl, _, rfl, ?_⟩
              have e3 : decide (V.int (p.sum + b) = V.int (n : Int)) = decide (p.sum + b = (n : Int)) := by
                by_cases c : p.sum + b = (n : Int)
                · rw [decide_eq_true c, c]
                  exact decide_eq_true rfl
                · rw [decide_eq_false c]
                  exact decide_eq_false fun z => c (V.int.inj z)
              rw [e3]
              exact hq
        · have h1 : (ext (cutS n m i) (cutL n m i)).length = (cutL n m (i + 1)).length := rfl
          have h2 := cutL_small (n := n) (m := m) (k := i + 1) hn hm (by omega)
          omega
      · rintro σ H' ⟨f, v3, v4, v5, v6, rfl, b⟩
        exact ⟨_, rfl, q H' f b⟩

theorem sc_lorders : FnScope ["_law_many", "_law_signed", "_law_found", "_law_k", "_law_longer", "_law_order", "_law_block"] ["_law_many", "_law_signed"] (defScope (topS 28)) := ⟨rfl, rfl, rfl, by decide +kernel, rfl, by decide +kernel, by decide +kernel⟩
theorem ok_lorders (A : At K mg "_law_orders" (topS 28)) (T : Nm mg) : Ok P w K mg base CX0 1 "_law_orders" ["_law_many", "_law_signed"] spOrders := by
  refine mk_ok A sc_lorders (fun _ _ _ _ _ _ us hl => match us, hl with | [_, _], _ => rfl) (fun vs H Q E h => ?_) (fun f cdv A outer s H vs Q E hr h => ?_)
  · obtain ⟨m, sg, rfl, _⟩ := h
    rfl
  · obtain ⟨m, sg, rfl, hm, q⟩ := h
    have hli : bootBuiltins "list" = some (.type "list") := by decide +kernel
    refine ⟨_, pss_cons (ps_set (i := 2) sc_lorders.nd rfl (.inl rfl) (pe_lst (pa_cons (pe_tup pa_nil) pa_nil)))
      (pss_cons (ps_for PassesOwn.never rfl (pi_range1 rfl T.range (pa_cons (pv 0) pa_nil)) (pg_name (i := 3) sc_lorders.nd rfl (.inl rfl))
        (pss_cons (ps_set (i := 4) sc_lorders.nd rfl (.inl rfl) (pe_lst pa_nil))
        (pss_cons (ps_for PassesOwn.never rfl (pi_list (pe_callTy call_list_of (by rfl) T.list hli (pa_cons (pv 2) pa_nil))) (pg_name (i := 5) sc_lorders.nd rfl (.inl rfl))
          (pss_one (ps_for PassesOwn.never rfl (pi_range2 (by rfl) T.range (pa_cons (pe_op op_sub pe_int (pv 0)) (pa_cons (pe_op op_add (pv 0) pe_int) pa_nil))) (pg_name (i := 6) sc_lorders.nd rfl (.inl rfl))
            (pss_one (ps_if (PW.pt (pw_and (pt_cmpR op_ne (pv 6) pe_int (nomark _)) (pw_and (PW.pt (pw_or (pt_cmpR op_gt (pv 6) pe_int (nomark _)) (pw_or1 (pt_val (pv 1)))))
                (pw_and (pt_cmpR op_notIn_seq (pv 6) (pv 5) (by rfl)) (pw_and1 (pt_cmpR op_notIn_seq (pe_op op_sub pe_int (pv 6)) (pv 5) (by rfl)))))))
              (pss_one (ps_expr (pe_bm PySem.F.plainAttrs_list PySem.F.slot_list_append PySem.F.type_list_append mt_append (pv 4) (pa_cons (pe_op op_catA (pv 5) (pe_tup (pa_cons (pv 6) pa_nil))) pa_nil)))) pss_nil)))))
        (pss_one (ps_set (i := 2) sc_lorders.nd rfl (.inl rfl) (pv 4))))))
      (pss_one (ps_ret (pv 2)))), ?_⟩
    refine ⟨line_ge (Nat.zero_le _), fun t nt => ⟨line_ge (by show 1 ≤ 16777216; decide), fun f nf => ?_⟩⟩
    have s1 : Same H (upd H t (.tup [])) := same_new nt
    have tf : t ≠ f := ne_of_none upd_same nf
    have b0 : Bld H (upd (upd H t (.tup [])) f (.lst [.ref t])) f (ordL m sg 0) := ⟨s1.free nf, same_put (s1.free nf) s1, [.ref t], upd_same, .cons (by rw [upd_ne tf]; exact upd_same) .nil⟩
    refine ⟨_, rfl, (m : Int), rfl, by omega, by omega, for_range (lo := 0) (n := (m : Int).toNat) (fun i σ H' => ∃ f v3 v4 v5 v6, σ = [some (.int (m : Int)), some (.bl sg), some (.ref f), v3, v4, v5, v6] ∧ Bld H H' f (ordL m sg i))
      ⟨f, none, none, none, none, rfl, b0⟩ ?_ ?_⟩
    · rintro i σ H' hi' ⟨f, v3, v4, v5, v6, rfl, b⟩
      have him : i < m := by omega
      refine rd_turn (Sx := ordS m sg) (fun o t p M v6 H1 D' hp bM ht hlen qq => ?_) b ?_ fun o v5 v6 H2 b2 => ⟨o, _, _, _, _, rfl, b2⟩
      · obtain ⟨p1, _, _⟩ := mem_ordL.mp hp
        refine rd_inner (lo := 0 - (m : Int)) (hi := (m : Int) + 1) (test := okB sg p) (fun H Q ht' hq => ?_) (fun b H Q ht' hq => ?_) ⟨by omega, by omega, by omega, by omega⟩ bM ht (by omega) hlen qq
        · exact ⟨_, rfl, _, _, rfl, rfl, _, rfl, _, _, rfl, rfl, hq⟩
        · refine ⟨_, rfl, rfl, _, rfl, ?_⟩
          unfold okB at hq
          by_cases h0 : b = 0
          · subst h0
            exact hq
          · have e1 : (!decide (V.int b = V.int 0)) = true := by
              rw [decide_eq_false fun z => h0 (V.int.inj z)]
              rfl
            rw [e1]
            rw [decide_eq_true (show b ≠ 0 from h0), Bool.true_and] at hq
            refine iteT ⟨_, rfl, _, _, rfl, rfl, _, rfl, ?_⟩
            -- behind (block > 0 or signed)
            have rest : ∀ c : Bool, (c = (decide (0 < b) || sg)) → (if c = true then tAnd (tTest (tOp (rIn K true) (tVar 6) (tVar 5))) (tTest (tOp (rIn K true) (tOp (rI0 fun i j => .int (i - j)) (tC (.int 0)) (tVar 6)) (tVar 5)))
                [some (.int (m : Int)), some (.bl sg), some (.ref f), some (.int ((0 : Int) + (i : Int))), some (.ref o), some (.ref t), some (.int b)] H Q else Q false H) := fun c ec => by
              rw [← ec] at hq
              cases c with
              | false => exact iteF hq
              | true =>
                rw [Bool.true_and] at hq
                refine iteT ⟨_, rfl, _, rfl, t, _, rfl, .inr (SqT.of ht'), rfl, flat_ints p, _, rfl, ?_⟩
                rw [if_pos rfl, inV_int]
                cases e2 : decide (b ∈ p) with
                | true =>
                  rw [e2] at hq
                  exact hq
                | false =>
                  rw [e2] at hq
                  refine ⟨_, rfl, _, _, rfl, rfl, _, rfl, t, _, rfl, .inr (SqT.of ht'), rfl, flat_ints p, _, rfl, ?_⟩
                  rw [if_pos rfl, inV_int]
                  exact hq
            cases e3 : decide (0 < b) with
            | true => exact rest true (by rw [e3]; rfl)
            | false => exact ⟨_, rfl, sg, rfl, rest sg (by rw [e3]; rfl)⟩
      · have h1 : (ext (ordS m sg) (ordL m sg i)).length = (ordL m sg (i + 1)).length := rfl
        have h2 := ordL_small (m := m) (k := i + 1) sg hm (by omega)
        omega
    · rintro σ H' ⟨f, v3, v4, v5, v6, rfl, b⟩
      exact ⟨_, rfl, q H' f b⟩
end
end TW

set_option Elab.async false
set_option linter.all false
set_option maxRecDepth 100000
set_option maxHeartbeats 4000000
namespace TW
open PySem PySem.Spec PyProof.Rows L2
/-! ### [parts + (size,) for parts in found for size in .. if ..] -/
abbrev tCat (K : PySem.W.Frag) : TE := tOp (rCatA K) (tVar 5) (tTup (tCons (tVar 6) tNil))
theorem rd_c2 {K : PySem.W.Frag} {wi1 : TI} {tt1 : TT} {s0 s1 s3 s4 v5 v6 : Option V} {f : Addr} {xs : List V} {E : List (List Int)} {H : Hp} {lo : List Int → Int} {n : List Int → Nat} {test : List Int → Int → Bool} {Q : VK}
    (hf : H f = some (.lst xs)) (T : Tups H xs E) (hE : ∀ p ∈ E, p.length ≤ 100) (hlen : (ext (fun p => (ran (lo p) (n p)).filter (test p)) E).length < 16777216)
    (hW : ∀ (t : Addr) (p : List Int) (H1 : Hp) (R : It → Hp → Prop), p ∈ E → Same H H1 → H1 t = some (.tup (p.map V.int)) → R (Itr (lo p) (n p)) H1 → wi1 [s0, s1, some (.ref f), s3, s4, some (.ref t), none] H1 R)
    (hT : ∀ (t : Addr) (p : List Int) (s : Int) (H1 : Hp) (R : Bool → Hp → Prop), p ∈ E → Same H H1 → H1 t = some (.tup (p.map V.int)) → R (test p s) H1 → tt1 [s0, s1, some (.ref f), s3, s4, some (.ref t), some (.int s)] H1 R)
    (q : ∀ (D : Addr) (H' : Hp), Bld H H' D (ext (fun p => (ran (lo p) (n p)).filter (test p)) E) → Q (.ref D) H') :
    tLc2 (iList K (tVar 2)) (gName 5) tYes wi1 (gName 6) tt1 (tCat K) [5, 6] [6] [s0, s1, some (.ref f), s3, s4, v5, v6] H Q := by
  refine ⟨_, rfl, f, rfl, ⟨_, SqL.of hf⟩, fun D nD => ?_⟩
  generalize hSx : (fun p => (ran (lo p) (n p)).filter (test p)) = Sx at hlen q
  have hS : ∀ p, Sx p = (ran (lo p) (n p)).filter (test p) := fun p => by rw [← hSx]
  refine ⟨fun i m H' => m = xs.length - i ∧ i ≤ xs.length ∧ Bld H H' D (ext Sx (E.take i)), ⟨xs.length, by omega, Nat.zero_le _, Bld.start (Same.refl H) nD⟩, ?_⟩
  rintro i m H1 ⟨rfl, hi, b⟩
  by_cases hlt : i < xs.length
  · refine .inr ⟨⟨xs, xs[i], SqL.of (b.same _ _ hf), List.getElem?_eq_getElem hlt⟩, fun H' => Bld H H' D (ext Sx (E.take (i + 1))), fun H' b' => ⟨xs.length - (i + 1), by omega, rfl, hlt, b'⟩, fun x H' y => ?_⟩
    obtain ⟨rfl, y⟩ := y
    have hx := y xs (SqL.of (b.same _ _ hf))
    obtain ⟨t, p, rfl, hp, ht⟩ := T.get hx
    have hpE : p ∈ E := List.mem_of_getElem? hp
    have em := take_more hp
    have total : (ext Sx (E.take i)).length + (Sx p).length ≤ (ext Sx E).length := by
      have h1 : ext Sx (E.take (i + 1)) = ext Sx (E.take i) ++ (Sx p).map fun s => p ++ [s] := by rw [em, ext_append, ext_one]
      have h2 : (ext Sx E).length = (ext Sx (E.take (i + 1))).length + (ext Sx (E.drop (i + 1))).length := by
        rw [← List.length_append, ← ext_append, List.take_append_drop]
      rw [h1, List.length_append, List.length_map] at h2
      omega
    refine ⟨rfl, hW t p _ _ hpE b.same (b.same _ _ ht) ?_⟩
    refine ⟨fun j k H' => k = n p - j ∧ j ≤ n p ∧ Bld H H' D (ext Sx (E.take i) ++ (((ran (lo p) (n p)).take j).filter (test p)).map fun s => p ++ [s]), ⟨n p, by omega, Nat.zero_le _, by rw [List.take_zero]; simpa using b⟩, ?_⟩
    rintro j k H2 ⟨rfl, hj, b2⟩
    by_cases hjl : j < n p
    · refine .inr ⟨hjl, fun H' => Bld H H' D (ext Sx (E.take i) ++ (((ran (lo p) (n p)).take (j + 1)).filter (test p)).map fun s => p ++ [s]), fun H' b' => ⟨n p - (j + 1), by omega, rfl, hjl, b'⟩, fun x H' y => ?_⟩
      obtain ⟨rfl, rfl⟩ := y
      have hg : (ran (lo p) (n p))[j]? = some (lo p + (j : Int)) := ran_get hjl
      have em2 := take_more hg
      refine ⟨rfl, hT t p (lo p + (j : Int)) _ _ hpE b2.same (b2.same _ _ ht) ?_⟩
      cases ec : test p (lo p + (j : Int)) with
      | true =>
        obtain ⟨ys, hD, TD⟩ := b2.ex
        refine ⟨_, rfl, _, rfl, cat_val (b2.same _ _ ht) (hE p hpE) fun H3 a sm na ea => ?_⟩
        refine ⟨ys, sm _ _ hD, ?_, ?_⟩
        · rw [TD.length]
          refine line_gt ?_
          have h1 : (((ran (lo p) (n p)).take j).filter (test p)).length ≤ ((ran (lo p) (n p)).filter (test p)).length :=
            (List.Sublist.filter (test p) (List.take_sublist j (ran (lo p) (n p)))).length_le
          rw [List.length_append, List.length_map]
          rw [hS p] at total
          omega
        · rw [em2, List.filter_append, List.map_append, ← List.append_assoc]
          have e2 : [lo p + (j : Int)].filter (test p) = [lo p + (j : Int)] := by
            rw [List.filter_cons, if_pos ec]
            rfl
          rw [e2]
          exact Bld.add nD b2.same hD TD sm ea
      | false =>
        show Bld H _ D _
        rw [em2, List.filter_append]
        have e2 : [lo p + (j : Int)].filter (test p) = [] := by
          rw [List.filter_cons, if_neg (by rw [ec]; exact Bool.false_ne_true)]
          rfl
        rw [e2, List.append_nil]
        exact b2
    · obtain rfl : j = n p := by omega
      refine .inl ⟨Nat.le_refl _, ?_⟩
      rw [List.take_of_length_le (l := ran (lo p) (n p)) (by rw [ran_len]; exact Nat.le_refl _), ← hS p] at b2
      show Bld H _ D _
      rw [em, ext_append, ext_one]
      exact b2
  · obtain rfl : i = xs.length := by omega
    refine .inl ⟨⟨xs, SqL.of (b.same _ _ hf), Nat.le_refl _⟩, ?_⟩
    rw [List.take_of_length_le (by rw [T.length]; exact Nat.le_refl _)] at b
    exact q D _ b

/-! ### may_follow -/
def spMay : Sp := fun vs H Q _ => ∃ (t : Addr) (p : List Int) (b : Int), vs = [.ref t, .int b] ∧ H t = some (.tup (p.map V.int)) ∧ Q (.bl (mayF p b)) H
section
variable {P : Program} {w : World} {K : PySem.W.Frag} {mg : Str → Option Value} {base : Heap}
theorem dec_ints (a b : Int) : decide (V.int a = V.int b) = decide (a = b) := by
  by_cases c : a = b
  · rw [c]
    rw [decide_eq_true rfl, decide_eq_true rfl]
  · rw [decide_eq_false c]
    exact decide_eq_false fun z => c (V.int.inj z)
theorem sc_may : FnScope ["order", "block"] ["order", "block"] (defScope (topS 14)) := ⟨rfl, rfl, rfl, by decide +kernel, rfl, by decide +kernel, by decide +kernel⟩
theorem ok_may (A : At K mg "may_follow" (topS 14)) (T : Nm mg) : Ok P w K mg base CX0 1 "may_follow" ["order", "block"] spMay := by
  refine mk_ok A sc_may (fun _ _ _ _ _ _ us hl => match us, hl with | [_, _], _ => rfl) (fun vs H Q E h => ?_) (fun f cdv A outer s H vs Q E hr h => ?_)
  · obtain ⟨t, p, b, rfl, _⟩ := h
    rfl
  · obtain ⟨t, p, b, rfl, ht, q⟩ := h
    refine ⟨_, pss_cons (ps_if (PW.pt (pw_or (pt_cmpR op_eq (pv 1) pe_int (nomark _)) (pw_or (pt_cmpR op_in_seq (pv 1) (pv 0) (by rfl)) (pw_or1 (pt_cmpR op_in_seq (pe_un un_neg (pv 1)) (pv 0) (by rfl)))))) (pss_one (ps_ret pe_bl)) pss_nil)
      (pss_one (ps_ret (pe_or (pe_cmpR op_eq (pe_callB call_len_seq (by rfl) T.len PySem.boot_len (pa_cons (pv 0) pa_nil)) pe_int (nomark _))
        (pe_one (pe_cmpR op_ne (pv 1) (pe_op op_add (pe_ix ix_tup (pv 0) (pe_un un_neg pe_int) (fun _ _ => rfl)) pe_int) (nomark _)))))), ?_⟩
    unfold mayF at q
    -- the last line
    have last : (tRet (tOrV (tOp rEq (tCB (fun xs H Q => ∃ p ys, xs = [.ref p] ∧ (SqL K H p ys ∨ SqT K H p ys) ∧ Q (.int ys.length) H) (tCons (tVar 0) tNil)) (tC (.int 0)))
        (tOp rNe (tVar 1) (tOp (rI0 fun i j => .int (i + j)) (tOp (rIxT K) (tVar 0) (tUn (rU fun i => .int (-i)) (tC (.int 1)))) (tC (.int 1)))))) { nx := fun _ H' => Q .non H', rt := fun v H' => v = .bl (stepOk p b) ∧ H' = H } [some (.ref t), some (.int b)] H := by
      refine ⟨_, rfl, t, _, rfl, .inr (SqT.of ht), rfl, _, rfl, ?_⟩
      rw [dec_ints, List.length_map]
      cases p with
      | nil => exact ⟨rfl, rfl⟩
      | cons x r =>
        have e1 : decide (((x :: r).length : Int) = 0) = false := decide_eq_false (by rw [List.length_cons]; omega)
        rw [e1]
        refine iteF ⟨_, rfl, _, rfl, 1, rfl, t, (x :: r).map V.int, -1, .int ((x :: r).getLast (List.cons_ne_nil x r)), rfl, rfl, SqT.of ht, ?_, _, _, rfl, rfl, rfl, ?_, rfl⟩
        · have e2 : (x :: r).map V.int = ((x :: r).dropLast.map V.int) ++ [.int ((x :: r).getLast (List.cons_ne_nil x r))] := by
            rw [← List.map_singleton, ← List.map_append, List.dropLast_concat_getLast]
          rw [e2]
          exact atI_last _ _
        · unfold stepOk
          rw [List.getLast?_eq_getLast (List.cons_ne_nil x r), dec_ints]
          by_cases c : b = (x :: r).getLast (List.cons_ne_nil x r) + 1
          · rw [decide_eq_true c]
            show V.bl (!true) = V.bl (decide (b ≠ (x :: r).getLast (List.cons_ne_nil x r) + 1))
            rw [decide_eq_false (fun z : b ≠ (x :: r).getLast (List.cons_ne_nil x r) + 1 => z c)]
            rfl
          · rw [decide_eq_false c]
            show V.bl (!false) = V.bl (decide (b ≠ (x :: r).getLast (List.cons_ne_nil x r) + 1))
            rw [decide_eq_true (show b ≠ (x :: r).getLast (List.cons_ne_nil x r) + 1 from c)]
            rfl
    have mono : ∀ {R R' : VK}, (∀ v H', R v H' → R' v H') → (tRet (tOrV (tOp rEq (tCB (fun xs H Q => ∃ p ys, xs = [.ref p] ∧ (SqL K H p ys ∨ SqT K H p ys) ∧ Q (.int ys.length) H) (tCons (tVar 0) tNil)) (tC (.int 0)))
        (tOp rNe (tVar 1) (tOp (rI0 fun i j => .int (i + j)) (tOp (rIxT K) (tVar 0) (tUn (rU fun i => .int (-i)) (tC (.int 1)))) (tC (.int 1)))))) { nx := fun _ H' => Q .non H', rt := R } [some (.ref t), some (.int b)] H →
        (tRet (tOrV (tOp rEq (tCB (fun xs H Q => ∃ p ys, xs = [.ref p] ∧ (SqL K H p ys ∨ SqT K H p ys) ∧ Q (.int ys.length) H) (tCons (tVar 0) tNil)) (tC (.int 0)))
        (tOp rNe (tVar 1) (tOp (rI0 fun i j => .int (i + j)) (tOp (rIxT K) (tVar 0) (tUn (rU fun i => .int (-i)) (tC (.int 1)))) (tC (.int 1)))))) { nx := fun _ H' => Q .non H', rt := R' } [some (.ref t), some (.int b)] H := by
      intro R R' hR h
      obtain ⟨v0, e0, a, ys, ex, hs, hsc, k, ek, h⟩ := h
      refine ⟨v0, e0, a, ys, ex, hs, hsc, k, ek, ?_⟩
      cases k with
      | true => exact hR _ _ h
      | false =>
        obtain ⟨v1, e1, v2, e2, i, ei, a2, xs2, i2, x2, ea2, ei2, hs2, hat, i3, j3, e3, e4, hsc2, h⟩ := h
        exact ⟨v1, e1, v2, e2, i, ei, a2, xs2, i2, x2, ea2, ei2, hs2, hat, i3, j3, e3, e4, hsc2, hR _ _ h⟩
    refine ⟨_, rfl, rfl, _, rfl, ?_⟩
    rw [dec_ints]
    cases e0 : decide (b = 0) with
    | true =>
      rw [e0] at q
      exact q
    | false =>
      rw [e0, Bool.false_or] at q
      refine ⟨_, rfl, _, rfl, t, _, rfl, .inr (SqT.of ht), rfl, flat_ints p, _, rfl, ?_⟩
      rw [if_neg Bool.false_ne_true, inV_int]
      cases e1 : decide (b ∈ p) with
      | true =>
        rw [e1] at q
        exact q
      | false =>
        rw [e1, Bool.false_or] at q
        refine ⟨_, rfl, b, rfl, _, rfl, t, _, rfl, .inr (SqT.of ht), rfl, flat_ints p, _, rfl, ?_⟩
        rw [if_neg Bool.false_ne_true, inV_int]
        cases e2 : decide (-b ∈ p) with
        | true =>
          rw [e2] at q
          exact q
        | false =>
          rw [e2] at q
          refine mono (fun v H' h => ?_) last
          obtain ⟨rfl, rfl⟩ := h
          exact q
end
end TW

set_option Elab.async false
set_option linter.all false
set_option maxRecDepth 100000
set_option maxHeartbeats 4000000
namespace TW
open PySem PySem.Spec PyProof.Rows L2
/-! ### defs with one keyword-only parameter -/
structure AtD (K : PySem.W.Frag) (mg : Str → Option Value) (nm kw : Str) (st : Stmt) : Prop where
  ex : ∃ f fd, mg nm = some (.ref f) ∧ FunD K nm nm (defArgs st) (defBody st) (defScope st) [] [(kw, .bl false)] f fd
/-- called with the keyword, or without it -/
def OkD (P : Program) (w : World) (K : PySem.W.Frag) (mg : Str → Option Value) (base : Heap) (CX : CXT) (k : Nat) (nm kw : Str) (ps : List Str) (n : Nat) (sp : Sp) : Prop :=
  ∃ f fd, mg nm = some (.ref f) ∧ PySem.W.keepIn K (.ref f) = true ∧ KBn K fd ps n [kw] (fun us ws => us ++ ws) (fun vs zs => vs ++ zs) ∧ (∃ ds, Vals [V.bl false] ds ∧ Binds K fd ps ds) ∧ FnOk P w K mg base CX k f fd ps sp

section
variable {P : Program} {w : World} {K : PySem.W.Frag} {mg : Str → Option Value} {base : Heap}
/-! ### cuttings -/
abbrev N_cuts : List Str := ["length", "many", "found", "behind", "_d", "parts", "size"]
theorem sc_cuts : FnScope N_cuts ["length", "many"] (defScope (topS 9)) := ⟨rfl, rfl, rfl, by decide +kernel, rfl, by decide +kernel, by decide +kernel⟩
theorem ok_cuts (A : At K mg "cuttings" (topS 9)) (T : Nm mg) : Ok P w K mg base CX0 1 "cuttings" ["length", "many"] spCuts := by
  refine mk_ok A sc_cuts (fun _ _ _ _ _ _ us hl => match us, hl with | [_, _], _ => rfl) (fun vs H Q E h => ?_) (fun f cdv A outer s H vs Q E hr h => ?_)
  · obtain ⟨n, m, rfl, _⟩ := h
    rfl
  · obtain ⟨n, m, rfl, hn, hm, q⟩ := h
    have hs : bootBuiltins "sum" = some (.builtin "sum") := by decide +kernel
    refine ⟨_, pss_cons (ps_if (pt_cmpR op_eq (pv 1) pe_int (nomark _)) (pss_one (ps_ret (pe_ifExp (pt_cmpR op_eq (pv 0) pe_int (nomark _)) (pe_lst (pa_cons (pe_tup pa_nil) pa_nil)) (pe_lst pa_nil)))) pss_nil)
      (pss_cons (ps_set (i := 2) sc_cuts.nd rfl (.inl rfl) (pe_lst (pa_cons (pe_tup pa_nil) pa_nil)))
      (pss_cons (ps_for PassesOwn.never rfl (pi_range3 rfl T.range (pa_cons (pe_op op_sub (pv 1) pe_int) (pa_cons pe_int (pa_cons (pe_un un_neg pe_int) pa_nil)))) (pg_name (i := 3) sc_cuts.nd rfl (.inr rfl))
        (pss_one (ps_setLc2 (i := 2) (own := [("parts", 5), ("size", 6)]) (vs1 := [6]) (g := gName 5) (g1 := gName 6) (tt := tYes) (tt1 := tYes) rfl sc_cuts.nd rfl rfl (sw_true rfl rfl rfl (by decide +kernel)) (pi_list (pv 2))
          (blkOk_by (N := N_cuts) (sc := defScope (topS 9)) (by decide +kernel)) (by decide)
          (fun _ _ _ _ _ => pg_name (i := 5) sc_cuts.nd rfl (Or.inl rfl)) (fun _ _ _ _ _ => pts_nil)
          (fun _ _ _ _ _ => pi_range2 (by rfl) T.range (pa_cons pe_int (pa_cons (pe_op op_add (pe_op op_sub (pe_op op_sub (pv 0) (pe_callB (r := rSumT K) (cr_sumT rfl) (by rfl) T.sum hs (pa_cons (pv 5) pa_nil))) (pv 3)) pe_int) pa_nil)))
          (fun _ _ _ _ _ => pg_name (i := 6) sc_cuts.nd rfl (Or.inl rfl)) (fun _ _ _ _ _ => pts_nil)
          (fun _ _ _ _ _ => pe_op (r := rCatA K) op_catA (pv 5) (pe_tup (pa_cons (pv 6) pa_nil))))))
      (pss_one (ps_ret (pe_lc (own := [("parts", 5)]) (g := gName 5) rfl sc_cuts.nd (pi_list (pv 2)) (blkOk_by (N := N_cuts) (sc := defScope (topS 9)) (by decide +kernel))
        (fun _ _ _ _ _ => pg_name (i := 5) sc_cuts.nd rfl (Or.inl rfl))
        (fun _ _ _ _ _ => pts_one (pt_cmpR op_lt (pe_callB (r := rSumT K) (cr_sumT rfl) (by rfl) T.sum hs (pa_cons (pv 5) pa_nil)) (pv 0) (nomark _)))
        (fun _ _ _ _ _ => pe_op (r := rCatA K) op_catA (pv 5) (pe_tup (pa_cons (pe_op op_sub (pv 0) (pe_callB (r := rSumT K) (cr_sumT rfl) (by rfl) T.sum hs (pa_cons (pv 5) pa_nil))) pa_nil)))))))), ?_⟩
    refine ⟨_, rfl, rfl, _, rfl, ?_⟩
    rw [dec_ints]
    rw [← cuts_same] at q
    by_cases e0 : (m : Int) = 0
    · rw [decide_eq_true e0]
      have em : m = 0 := by omega
      subst em
      refine ⟨_, rfl, rfl, _, rfl, ?_⟩
      rw [dec_ints]
      unfold cutsP at q
      rw [if_pos rfl] at q
      by_cases e1 : (n : Int) = 0
      · rw [decide_eq_true e1]
        rw [if_pos (show n = 0 by omega)] at q
        refine ⟨line_ge (Nat.zero_le _), fun t nt => ⟨line_ge (by show 1 ≤ 16777216; decide), fun l nl => q _ l ⟨(same_new nt).free nl, (same_new nt).trans (same_new nl), [.ref t], upd_same, .cons ?_ .nil⟩⟩⟩
        rw [upd_ne (ne_of_none upd_same nl)]
        exact upd_same
      · rw [decide_eq_false e1]
        rw [if_neg (show ¬ n = 0 by omega)] at q
        exact ⟨Nat.zero_le _, fun l nl => q _ l ⟨nl, same_new nl, [], upd_same, .nil⟩⟩
    · rw [decide_eq_false e0]
      have em : ¬ m = 0 := by omega
      unfold cutsP at q
      rw [if_neg em] at q
      refine ⟨line_ge (Nat.zero_le _), fun t nt => ⟨line_ge (by show 1 ≤ 16777216; decide), fun f nf => ?_⟩⟩
      have s1 : Same H (upd H t (.tup [])) := same_new nt
      have tf : t ≠ f := ne_of_none upd_same nf
      have b0 : Bld H (upd (upd H t (.tup [])) f (.lst [.ref t])) f (cutP n m 0) := ⟨s1.free nf, same_put (s1.free nf) s1, [.ref t], upd_same, .cons (by rw [upd_ne tf]; exact upd_same) .nil⟩
      have facts : ∀ i p, p ∈ cutP n m i → i + 1 ≤ m → p.length = i ∧ 0 ≤ p.sum ∧ p.sum ≤ 8 := by
        intro i p hp hi
        have hc : p ∈ cutL n m i := by
          by_cases c : 1 ≤ i
          · rw [cutP_eq n m i c hi] at hp
            exact (List.mem_filter.mp hp).1
          · obtain rfl : i = 0 := by omega
            exact hp
        obtain ⟨p1, p2, p3, p4⟩ := cutL_sum_nonneg hc
        refine ⟨p1, by omega, ?_⟩
        by_cases c : 1 ≤ i
        · have := p4 c
          omega
        · have e0 : p = [] := List.length_eq_zero_iff.mp (by omega)
          rw [e0]
          decide
      refine ⟨_, rfl, _, _, rfl, rfl, 1, rfl, (m : Int) - 1, 0, -1, ((m : Int) - 1 - 0).toNat, rfl, RgC.neg (by omega) (by omega) (by decide) (by decide), for_rangeC (lo := (m : Int) - 1) (c := -1) (n := ((m : Int) - 1 - 0).toNat)
        (fun i σ H' => ∃ f v3 v5 v6, σ = [some (.int (n : Int)), some (.int (m : Int)), some (.ref f), v3, none, v5, v6] ∧ Bld H H' f (cutP n m i)) ⟨f, none, none, none, rfl, b0⟩ ?_ ?_⟩
      · rintro i σ H' hi' ⟨f, v3, v5, v6, rfl, b⟩
        have him : i + 2 ≤ m := by omega
        obtain ⟨xs, hf, TX⟩ := b.ex
        have eS : (fun p : List Int => (ran 1 ((n : Int) - p.sum - ((m : Int) - 1 + (i : Int) * (-1)) + 1 - 1).toNat).filter (fun _ => true)) = cutPS n m i := by
          funext p
          exact List.filter_eq_self.mpr fun _ _ => rfl
        have hlen : (ext (cutPS n m i) (cutP n m i)).length < 16777216 := by
          have h1 : (ext (cutPS n m i) (cutP n m i)).length = (cutP n m (i + 1)).length := rfl
          have h2 := cutP_small (n := n) (m := m) (k := i + 1) hn hm (by omega)
          omega
        show tAsg _ (gName 2) _ [some (.int (n : Int)), some (.int (m : Int)), some (.ref f), some (.int ((m : Int) - 1 + (i : Int) * (-1))), none, v5, v6] H'
        show tLc2 _ _ _ _ _ _ _ [5, 6] _ [some (.int (n : Int)), some (.int (m : Int)), some (.ref f), some (.int ((m : Int) - 1 + (i : Int) * (-1))), none, v5, v6] H' _
        refine rd_c2 (K := K) (wi1 := iRng2 (tCons (tC (.int 1)) (tCons (tOp (rI0 fun i j => .int (i + j)) (tOp (rI0 fun i j => .int (i - j)) (tOp (rI0 fun i j => .int (i - j)) (tVar 0) (tCB (rSumT K) (tCons (tVar 5) tNil))) (tVar 3)) (tC (.int 1))) tNil))) (tt1 := tYes) (E := cutP n m i) (lo := fun _ => 1) (n := fun p => ((n : Int) - p.sum - ((m : Int) - 1 + (i : Int) * (-1)) + 1 - 1).toNat) (test := fun _ _ => true) hf TX (fun p hp => ?_) (by rw [eS]; exact hlen) (fun t p H1 R hp sm ht hR => ?_) (fun t p s H1 R hp sm ht hR => hR) fun D H2 b2 => ?_
        · have := (facts i p hp (by omega)).1
          omega
        · obtain ⟨_, p2, p3⟩ := facts i p hp (by omega)
          refine ⟨_, rfl, _, rfl, t, p, rfl, SqT.of ht, _, _, rfl, rfl, _, rfl, _, _, rfl, rfl, _, _, rfl, rfl, 1, _, rfl, ⟨by decide, by decide, ?_, ?_⟩, hR⟩
          · show -(2 ^ 62) ≤ (n : Int) - p.sum - ((m : Int) - 1 + (i : Int) * (-1)) + 1
            omega
          · show (n : Int) - p.sum - ((m : Int) - 1 + (i : Int) * (-1)) + 1 < 2 ^ 62
            omega
        · rw [eS] at b2
          exact ⟨D, _, _, _, rfl, b.new |> fun _ => ⟨b.same.free b2.new, b.same.trans b2.same, b2.ex⟩⟩
      · rintro σ H' ⟨f, v3, v5, v6, rfl, b⟩
        have ek : ((m : Int) - 1 - 0).toNat = m - 1 := by omega
        rw [ek] at b
        obtain ⟨xs, hf, TX⟩ := b.ex
        refine ⟨_, rfl, f, rfl, ⟨_, SqL.of hf⟩, fun D nD => lc_list (K := K) (a := f) (xs := xs) (fun i H2 => Bld H' H2 D (((cutP n m (m - 1)).take i).filter (fun p => decide (p.sum < (n : Int))) |>.map fun p => p ++ [(n : Int) - p.sum]))
          (Bld.start (Same.refl H') nD) (fun i H2 _ b2 => SqL.of (b2.same _ _ hf)) ?_ ?_⟩
        · rintro i x H2 hx b2
          obtain ⟨t, p, rfl, hp, ht⟩ := TX.get hx
          have hpE := List.mem_of_getElem? hp
          obtain ⟨p1, p2, p3⟩ := facts (m - 1) p hpE (by omega)
          have em2 := take_more hp
          have ht2 := b2.same _ _ ht
          refine ⟨rfl, _, rfl, t, p, rfl, SqT.of ht2, _, rfl, _, _, rfl, rfl, _, rfl, ?_⟩
          cases ec : decide (p.sum < (n : Int)) with
          | true =>
            obtain ⟨ys, hD, TD⟩ := b2.ex
            refine ⟨_, rfl, _, rfl, _, rfl, t, p, rfl, SqT.of ht2, _, _, rfl, rfl, cat_val ht2 (by omega) fun H3 a sm na ea => ⟨ys, sm _ _ hD, ?_, ?_⟩⟩
            · rw [TD.length, List.length_map]
              refine line_gt ?_
              have h1 : (((cutP n m (m - 1)).take i).filter (fun p => decide (p.sum < (n : Int)))).length ≤ (cutP n m (m - 1)).length :=
                Nat.le_trans (List.length_filter_le _ _) (by rw [List.length_take]; omega)
              have h2 := cutP_small (n := n) (m := m) (k := m - 1) hn hm (by omega)
              omega
            · rw [em2, List.filter_append, List.map_append]
              have e2 : [p].filter (fun p => decide (p.sum < (n : Int))) = [p] := by
                rw [List.filter_cons, if_pos ec]
                rfl
              rw [e2]
              exact Bld.add nD b2.same hD TD sm ea
          | false =>
            show Bld H' _ D _
            rw [em2, List.filter_append]
            have e2 : [p].filter (fun p => decide (p.sum < (n : Int))) = [] := by
              rw [List.filter_cons, if_neg (by rw [ec]; exact Bool.false_ne_true)]
              rfl
            rw [e2, List.append_nil]
            exact b2
        · rintro H2 b2
          rw [List.take_of_length_le (l := cutP n m (m - 1)) (by rw [TX.length]; exact Nat.le_refl _)] at b2
          exact q H2 D ⟨b.same.free b2.new, b.same.trans b2.same, b2.ex⟩

/-! ### lean_orders -/
def spLean : Sp := fun vs H Q _ => ∃ (m : Nat) (sg : Bool), vs = [.int (m : Int), .bl sg] ∧ m ≤ 8 ∧ ∀ (H' : Hp) (p : Addr), Bld H H' p (leanL m sg m) → Q (.ref p) H'
abbrev N_lean : List Str := ["many", "turned", "orders", "blocks", "_", "order", "block"]
theorem sc_lean : FnScope N_lean ["many", "turned"] (defScope (topS 15)) := ⟨rfl, rfl, rfl, by decide +kernel, rfl, by decide +kernel, by decide +kernel⟩
theorem ok_lean (A : AtD K mg "lean_orders" "turned" (topS 15)) (T : Nm mg) (M : Ok P w K mg base CX0 1 "may_follow" ["order", "block"] spMay) : OkD P w K mg base CX0 2 "lean_orders" "turned" ["many", "turned"] 1 spLean := by
  obtain ⟨fM, fdM, gM, kM, bM, GM⟩ := M
  obtain ⟨f, fd, g, F⟩ := A.ex
  refine ⟨f, fd, g, F.kp, ?_, ?_, ?_⟩
  · obtain ⟨oc, od, dV, kV, doc, pm, an, cdv, ct, osl, rfl, lk, hcd, hD, hK⟩ := F.ex
    rcases hD with ⟨_, rfl⟩ | ⟨e, _⟩
    · exact ⟨fun s us ws X l1 l2 => match us, ws, l1, l2 with | [_], [_], _, _ => .of_eq rfl, fun r1 r2 => r1.append r2⟩
    · exact absurd rfl e
  · exact F.binds0 1 (by simp) rfl fun D doc pm an cdv ct us ks l1 l2 => match us, ks, l1, l2 with | [_], [_], _, _ => ⟨_, _, _, _, _, _, rfl, rfl, rfl⟩
  · refine F.ok sc_lean (fun vs H Q E h => ?_) (fun cdv A outer s H vs Q E hr h => ?_)
    · obtain ⟨m, sg, rfl, _⟩ := h
      rfl
    · obtain ⟨m, sg, rfl, hm, q⟩ := h
      have hrg : bootBuiltins "range" = some (.type "range") := by decide +kernel
      refine ⟨_, PSs.nox (pss_cons (ps_set (i := 3) sc_lean.nd rfl (.inr rfl) (pe_callTy cr_range2 (by rfl) T.range hrg (pa_cons (pe_ifExp (pt_val (pv 1)) (pe_un un_neg (pv 0)) pe_int) (pa_cons (pe_op op_add (pv 0) pe_int) pa_nil))))
        (pss_cons (ps_set (i := 2) sc_lean.nd rfl (.inl rfl) (pe_lst (pa_cons (pe_tup pa_nil) pa_nil)))
        (pss_cons (ps_for PassesOwn.never rfl (pi_range1 rfl T.range (pa_cons (pv 0) pa_nil)) (pg_name (i := 4) sc_lean.nd rfl (.inl rfl))
          (pss_one (ps_setLc2 (i := 2) (own := [("order", 5), ("block", 6)]) (vs1 := [6]) (g := gName 5) (g1 := gName 6) (tt := tYes) rfl sc_lean.nd rfl rfl (sw_true rfl rfl rfl (by decide +kernel)) (pi_list (pv 2))
            (blkOk_by (N := N_lean) (sc := defScope (topS 15)) (by decide +kernel)) (by decide)
            (fun _ _ _ _ _ => pg_name (i := 5) sc_lean.nd rfl (Or.inl rfl)) (fun _ _ _ _ _ => pts_nil)
            (fun _ _ _ _ _ => pi_rgv (pv 3))
            (fun _ _ _ _ _ => pg_name (i := 6) sc_lean.nd rfl (Or.inl rfl)) (fun _ _ _ _ _ => pts_one (pt_val (pe_call GM hr (by rfl) gM kM bM .nil pass0 (pa_cons (pv 5) (pa_cons (pv 6) pa_nil)))))
            (fun _ _ _ _ _ => pe_op (r := rCatA K) op_catA (pv 5) (pe_tup (pa_cons (pv 6) pa_nil))))))
        (pss_one (ps_ret (pv 2)))))), ?_⟩
      generalize hlo : (if sg then -(m : Int) else 1) = lo0
      have lob : -8 ≤ lo0 ∧ lo0 ≤ 1 := by
        rw [← hlo]
        cases sg with
        | true => exact ⟨by show -8 ≤ -(m : Int); omega, by show -(m : Int) ≤ 1; omega⟩
        | false => exact ⟨by show (-8 : Int) ≤ 1; decide, by show (1 : Int) ≤ 1; decide⟩
      have go : ∀ {R : V → Hp → Prop}, R (.int lo0) H → tIf (tB (tVar 1)) (tUn (rU fun i => .int (-i)) (tVar 0)) (tC (.int 1)) (start N_lean [.int (m : Int), .bl sg]) H R := by
        intro R hR
        refine ⟨_, rfl, sg, rfl, ?_⟩
        rw [← hlo] at hR
        cases sg with
        | true => exact ⟨_, rfl, _, rfl, hR⟩
        | false => exact hR
      refine go ⟨_, rfl, _, _, rfl, rfl, lo0, (m : Int) + 1, rfl, fun rb nrb => ?_⟩
      have s0 : Same H (upd H rb (.rng lo0 ((m : Int) + 1))) := same_new nrb
      refine ⟨line_ge (Nat.zero_le _), fun t nt => ⟨line_ge (by show 1 ≤ 16777216; decide), fun f nf => ?_⟩⟩
      have s1 := s0.trans (same_new (o := .tup []) nt)
      have tf : t ≠ f := ne_of_none upd_same nf
      have hrb : (upd (upd (upd H rb (.rng lo0 ((m : Int) + 1))) t (.tup [])) f (.lst [.ref t])) rb = some (.rng lo0 ((m : Int) + 1)) := by
        have h1 : (upd H rb (.rng lo0 ((m : Int) + 1))) rb = some (.rng lo0 ((m : Int) + 1)) := upd_same
        exact same_new nf _ _ (same_new nt _ _ h1)
      have b0 : Bld H (upd (upd (upd H rb (.rng lo0 ((m : Int) + 1))) t (.tup [])) f (.lst [.ref t])) f (leanL m sg 0) := ⟨s1.free nf, same_put (s1.free nf) s1, [.ref t], upd_same, .cons (by rw [upd_ne tf]; exact upd_same) .nil⟩
      refine ⟨_, rfl, (m : Int), rfl, by omega, by omega, for_range (lo := 0) (n := (m : Int).toNat) (fun i σ H' => ∃ f v4 v5 v6, σ = [some (.int (m : Int)), some (.bl sg), some (.ref f), some (.ref rb), v4, v5, v6] ∧ Bld H H' f (leanL m sg i) ∧ H' rb = some (.rng lo0 ((m : Int) + 1)))
        ⟨f, none, none, none, rfl, b0, hrb⟩ ?_ ?_⟩
      · rintro i σ H' hi' ⟨f, v4, v5, v6, rfl, b, hb⟩
        have him : i < m := by omega
        obtain ⟨xs, hf, TX⟩ := b.ex
        have eS : (fun p : List Int => (ran lo0 ((m : Int) + 1 - lo0).toNat).filter (mayF p)) = leanS m sg := by
          funext p
          unfold leanS
          rw [hlo]
        have hlen : (ext (leanS m sg) (leanL m sg i)).length < 16777216 := by
          have h1 : (ext (leanS m sg) (leanL m sg i)).length = (leanL m sg (i + 1)).length := rfl
          have h2 := leanL_small (m := m) (k := i + 1) sg hm (by omega)
          omega
        show tAsg _ (gName 2) _ [some (.int (m : Int)), some (.bl sg), some (.ref f), some (.ref rb), some (.int ((0 : Int) + (i : Int))), v5, v6] H'
        show tLc2 _ _ _ _ _ _ _ [5, 6] _ [some (.int (m : Int)), some (.bl sg), some (.ref f), some (.ref rb), some (.int ((0 : Int) + (i : Int))), v5, v6] H' _
        refine rd_c2 (K := K) (wi1 := iRgv (tVar 3)) (tt1 := tB (tCall spMay [] E0 (tCons (tVar 5) (tCons (tVar 6) tNil)))) (E := leanL m sg i) (lo := fun _ => lo0) (n := fun _ => ((m : Int) + 1 - lo0).toNat) (test := mayF) hf TX (fun p hp => ?_) (by rw [eS]; exact hlen) (fun t p H1 R hp sm ht hR => ?_) (fun t p s H1 R hp sm ht hR => ?_) fun D H2 b2 => ?_
        · rw [leanL_eq] at hp
          have := (mem_ordL.mp (List.mem_filter.mp hp).1).1
          omega
        · exact ⟨_, rfl, rb, lo0, (m : Int) + 1, rfl, sm _ _ hb, ⟨by omega, by omega, by omega, by omega⟩, hR⟩
        · exact ⟨_, rfl, _, rfl, t, p, s, rfl, ht, _, rfl, hR⟩
        · rw [eS] at b2
          exact ⟨D, _, _, _, rfl, ⟨b.same.free b2.new, b.same.trans b2.same, b2.ex⟩, b2.same _ _ hb⟩
      · rintro σ H' ⟨f, v4, v5, v6, rfl, b, hb⟩
        exact ⟨_, rfl, q H' f b⟩
end
end TW

set_option Elab.async false
set_option linter.all false
set_option maxRecDepth 100000
set_option maxHeartbeats 4000000
namespace TW
open PySem PySem.Spec PyProof.Rows L2
/-! ### == of lists of ints, of texts -/
section
variable {K : PySem.W.Frag} {H : Hp}
theorem dp_ints : ∀ ns : List Int, DpAll K H (ns.map V.int) (ns.map PyData.int)
  | [] => .nil
  | n :: r => .cons (.int n) (dp_ints r)
theorem dp_strs : ∀ ys : List Str, DpAll K H (ys.map V.str) (ys.map PyData.str)
  | [] => .nil
  | y :: r => .cons (.str y) (dp_strs r)
end
theorem eqv_ints : ∀ ns ms : List Int, PyData.eqvAll (ns.map PyData.int) (ms.map PyData.int) = decide (ns = ms)
  | [], [] => rfl
  | [], m :: ms => rfl
  | n :: ns, [] => rfl
  | n :: ns, m :: ms => by
    show (n == m && PyData.eqvAll (ns.map PyData.int) (ms.map PyData.int)) = decide (n :: ns = m :: ms)
    rw [eqv_ints ns ms]
    by_cases c : n = m
    · subst c
      by_cases d : ns = ms
      · subst d
        simp
      · simp [d]
    · simp [c]
theorem eqv_strs : ∀ ns ms : List Str, PyData.eqvAll (ns.map PyData.str) (ms.map PyData.str) = decide (ns = ms)
  | [], [] => rfl
  | [], m :: ms => rfl
  | n :: ns, [] => rfl
  | n :: ns, m :: ms => by
    show (n == m && PyData.eqvAll (ns.map PyData.str) (ms.map PyData.str)) = decide (n :: ns = m :: ms)
    rw [eqv_strs ns ms]
    by_cases c : n = m
    · subst c
      by_cases d : ns = ms
      · subst d
        simp
      · simp [d]
    · simp [c]
theorem shaped_ints (ns : List Int) : SeqAt.shaped (.list (ns.map PyData.int)) = true := by
  have h1 : ∀ ns : List Int, PyData.canLayAll0 (ns.map PyData.int) = true := by
    intro ns
    induction ns with
    | nil => rfl
    | cons n r ih => exact ih
  have h2 : ∀ ns : List Int, PyData.depthAll (ns.map PyData.int) = 0 := by
    intro ns
    induction ns with
    | nil => rfl
    | cons n r ih =>
      show max 0 (PyData.depthAll (r.map PyData.int)) = 0
      rw [ih]
      rfl
  show (PyData.canLayAll0 (ns.map PyData.int) && decide (PyData.depthAll (ns.map PyData.int) + 1 ≤ 64)) = true
  rw [h1, h2]
  rfl
theorem shaped_strs {ys : List Str} (h : ∀ y ∈ ys, OkT y.cps.toList) : SeqAt.shaped (.list (ys.map PyData.str)) = true := by
  have h1 : ∀ ys : List Str, (∀ y ∈ ys, OkT y.cps.toList) → PyData.canLayAll0 (ys.map PyData.str) = true := by
    intro ys
    induction ys with
    | nil => intro _; rfl
    | cons n r ih =>
      intro h
      show (PyData.strOk n && PyData.canLayAll0 (r.map PyData.str)) = true
      rw [ih fun y hy => h y (List.mem_cons_of_mem _ hy), Bool.and_true]
      have hn := h n List.mem_cons_self
      show n.cps.all (fun c => decide (c < 0x110000)) = true
      rw [← Array.all_toList, List.all_eq_true]
      intro c hc
      exact decide_eq_true (hn c hc)
  have h2 : ∀ ys : List Str, PyData.depthAll (ys.map PyData.str) = 0 := by
    intro ns
    induction ns with
    | nil => rfl
    | cons n r ih =>
      show max 0 (PyData.depthAll (r.map PyData.str)) = 0
      rw [ih]
      rfl
  show (PyData.canLayAll0 (ys.map PyData.str) && decide (PyData.depthAll (ys.map PyData.str) + 1 ≤ 64)) = true
  rw [h1 ys h, h2]
  rfl

/-! ### sorted lists that are arrangements of one another are one list -/
theorem sorted_ints_eq {a b : List Int} (h : a.Perm b) (ha : a.Pairwise (· ≤ ·)) (hb : b.Pairwise (· ≤ ·)) : a = b :=
  List.Perm.eq_of_pairwise (fun x y _ _ h1 h2 => Int.le_antisymm h1 h2) ha hb h
theorem risingS_pw : ∀ (p : Str) (l : List Str), risingS p l = true → (p :: l).Pairwise fun a b => ltCps b.cps.toList a.cps.toList = false
  | p, [], _ => List.pairwise_singleton ..
  | p, x :: r, h => by
    have h' : (!ltCps x.cps.toList p.cps.toList && risingS x r) = true := h
    obtain ⟨h1, h2⟩ := Bool.and_eq_true_iff.mp h'
    have h1' : ltCps x.cps.toList p.cps.toList = false := by simpa using h1
    have ih := risingS_pw x r h2
    rw [List.pairwise_cons]
    refine ⟨fun y hy => ?_, ih⟩
    rcases List.mem_cons.mp hy with rfl | hy
    · exact h1'
    · have h3 := (List.pairwise_cons.mp ih).1 y hy
      rw [ltCps_eq] at h1' h3 ⊢
      have g1 : ¬ x.cps.toList < p.cps.toList := of_decide_eq_false h1'
      have g3 : ¬ y.cps.toList < x.cps.toList := of_decide_eq_false h3
      exact decide_eq_false fun z => g3 (by
        exfalso
        have e1 : p.cps.toList ≤ x.cps.toList := List.not_lt.mp g1
        have e2 : x.cps.toList ≤ y.cps.toList := List.not_lt.mp g3
        have e3 : p.cps.toList ≤ y.cps.toList := List.le_trans e1 e2
        exact List.not_lt.mpr e3 z)
theorem sorted_strs_eq {a b : List Str} (h : a.Perm b) (ha : sortedS a = true) (hb : sortedS b = true) : a = b := by
  have pw : ∀ l : List Str, sortedS l = true → l.Pairwise fun a b => ltCps b.cps.toList a.cps.toList = false := by
    intro l hl
    cases l with
    | nil => exact List.Pairwise.nil
    | cons x r => exact risingS_pw x r hl
  refine List.Perm.eq_of_pairwise (fun x y _ _ h1 h2 => ?_) (pw a ha) (pw b hb) h
  rw [ltCps_eq] at h1 h2
  have g1 : ¬ y.cps.toList < x.cps.toList := of_decide_eq_false h1
  have g2 : ¬ x.cps.toList < y.cps.toList := of_decide_eq_false h2
  have e : x.cps.toList = y.cps.toList := List.le_antisymm (List.not_lt.mp g1) (List.not_lt.mp g2)
  have e2 : x.cps = y.cps := by
    have := congrArg List.toArray e
    simpa using this
  cases x
  cases y
  cases e2
  rfl
end TW

set_option Elab.async false
set_option linter.all false
set_option maxRecDepth 100000
set_option maxHeartbeats 4000000
namespace TW
open PySem PySem.Spec PyProof.Rows L2
/-! ### methods of a class -/
structure AtM (K : PySem.W.Frag) (C : Addr) (m qual : Str) (st : Stmt) : Prop where
  ex : ∃ f fd, PySem.W.findIn K (.ref C) m = some (some (.ref f)) ∧ PySem.W.isFn K (.ref f) = true ∧ PySem.W.fnIn K f = true ∧ Fun K m qual st f fd
def OkM (P : Program) (w : World) (K : PySem.W.Frag) (mg : Str → Option Value) (base : Heap) (CX : CXT) (k : Nat) (C : Addr) (m : Str) (ps : List Str) (sp : Sp) : Prop :=
  ∃ f fd, PySem.W.findIn K (.ref C) m = some (some (.ref f)) ∧ PySem.W.isFn K (.ref f) = true ∧ PySem.W.fnIn K f = true ∧ PySem.W.keepIn K (.ref f) = true ∧ Binds K fd ps [] ∧ FnOk P w K mg base CX k f fd ps sp
section
variable {P : Program} {w : World} {K : PySem.W.Frag} {mg : Str → Option Value} {base : Heap} {C : Addr} {m qual : Str} {st : Stmt} {N ps : List Str} {k : Nat} {sp : Sp}
theorem mk_okM (A : AtM K C m qual st) (S : FnScope N ps (defScope st))
    (hb : ∀ (kV doc pm : Value) (an : Option Addr) (cdv ct : Value) (us : List Value), us.length = ps.length → bindArgs (PySem.W.fnOf m qual (defArgs st) (defBody st) (defScope st) .none kV doc pm an cdv ct) ⟨us, []⟩ = pure (ps.zip us))
    (len : ∀ vs H Q E, sp vs H Q E → vs.length = ps.length)
    (hbody : ∀ (f : Addr) (cdv : Value) (A : Around) (outer : List Env) (s : Shared) (H : Hp) (vs : List V) (Q : VK) (E : XK), Room k (A.deeper (envOfC qual (defScope st) s.heap.objs.size f cdv)) → sp vs H Q E →
      ∃ t, PSs (cxOf CX0 P w K mg base N qual (defScope st) f cdv A outer s H E).nox (defBody st) t ∧ t { nx := fun _ H' => Q .non H', rt := Q } (start N vs) H) : OkM P w K mg base CX0 (k + 1) C m ps sp := by
  obtain ⟨f, fd, g, i1, i2, F⟩ := A.ex
  exact ⟨f, fd, g, i1, i2, F.kp, F.binds hb, F.ok S len fun cdv A outer s H vs Q E hr h => hbody f cdv A outer s H vs Q E hr h⟩
end
/-- what the written part says of Exchange -/
structure ExT (K : PySem.W.Frag) (mg : Str → Option Value) (C : Addr) : Prop where
  cl : Cls K C
  nB : NoAttr K C "blocks"
  gC : mg "Exchange" = some (.ref C)
  mks : PySem.W.makesIn K C = true
  kp : PySem.W.keepIn K (.ref C) = true
  rd : ∃ mc u, ClX.CRead K C mc ∧ ClX.CVal K C mc "MOST" (.int 12) u
/-- an exchange with the blocks bs at x -/
def ExAt (C : Addr) (H : Hp) (x : Addr) (bs : List Int) : Prop := ∃ dx t, H x = some (.ins C dx [("blocks", V.ref t)]) ∧ H t = some (.tup (bs.map V.int))
theorem ExAt.mono {C x : Addr} {H H' : Hp} {bs : List Int} (e : ExAt C H x bs) (s : Same H H') : ExAt C H' x bs := by
  obtain ⟨dx, t, h1, h2⟩ := e
  exact ⟨dx, t, s _ _ h1, s _ _ h2⟩
/-- the blocks are those of an exchange of m pieces -/
def PermB (m : Nat) (bs : List Int) : Prop := (bs.map Int.natAbs).Perm (List.range' 1 m)
theorem PermB.len {m : Nat} {bs : List Int} (h : PermB m bs) : bs.length = m := by
  have := h.length_eq
  rw [List.length_map, List.length_range'] at this
  exact this
theorem PermB.fits {m : Nat} {bs : List Int} (h : PermB m bs) {ps : List (List Nat)} (hp : ps.length = m) : Fits bs ps := by
  intro b hb
  have h1 : b.natAbs ∈ List.range' 1 m := h.mem_iff.mp (List.mem_map.mpr ⟨b, hb, rfl⟩)
  rw [List.mem_range'_1] at h1
  omega
theorem permB_of {m : Nat} {s : Bool} {bs : List Int} (h : bs ∈ ordL m s m) : PermB m bs := by
  obtain ⟨h1, h2, h3⟩ := mem_ordL.mp h
  have nd : (bs.map Int.natAbs).Nodup := by
    rw [List.nodup_iff_pairwise_ne, List.pairwise_map]
    exact h3.imp fun {a b} z e => by
      obtain ⟨z1, z2⟩ := z
      omega
  have nd2 : (List.range' 1 m).Nodup := List.nodup_range'
  -- a nodup list within a nodup list of its length
  have key : ∀ {a b : List Nat}, a.Nodup → (∀ x ∈ a, x ∈ b) → b.length ≤ a.length → a.Perm b := by
    intro a
    induction a with
    | nil =>
      intro b _ _ hl
      rw [List.length_eq_zero_iff.mp (Nat.le_zero.mp hl)]
    | cons x r ih =>
      intro b hn hs hl
      rw [List.nodup_cons] at hn
      have hx := hs x List.mem_cons_self
      have h4 := ih (b := b.erase x) hn.2 (fun y hy => (List.mem_erase_of_ne (fun e : y = x => hn.1 (by rw [← e]; exact hy))).mpr (hs y (List.mem_cons_of_mem _ hy))) (by
        rw [List.length_erase_of_mem hx]
        rw [List.length_cons] at hl
        omega)
      exact (h4.cons x).trans (List.perm_cons_erase hx).symm
  refine key nd (fun x hx => ?_) (by rw [List.length_map, List.length_range', h1]; exact Nat.le_refl _)
  obtain ⟨b, hb, rfl⟩ := List.mem_map.mp hx
  obtain ⟨e1, e2, e3, _⟩ := h2 b hb
  rw [List.mem_range'_1]
  omega
section
variable {P : Program} {w : World} {K : PySem.W.Frag} {mg : Str → Option Value} {base : Heap} {C : Addr}
/-! ### Exchange.__init__ -/
def spInit (C : Addr) : Sp := fun vs H Q _ => ∃ (x t dx : Addr) (bs : List Int) (m : Nat), vs = [.ref x, .ref t] ∧ H x = some (.ins C dx []) ∧ H t = some (.tup (bs.map V.int)) ∧ PermB m bs ∧ m ≤ 12 ∧
  ∀ H' : Hp, Keep x H H' → H' x = some (.ins C dx [("blocks", V.ref t)]) → Q .non H'
abbrev N_init : List Str := ["self", "blocks", "block"]
abbrev s_init : Stmt := inClass (topS 7) 1
theorem sc_init : FnScope N_init ["self", "blocks"] (defScope s_init) := ⟨rfl, rfl, rfl, by decide +kernel, rfl, by decide +kernel, by decide +kernel⟩
def absI (b : Int) : Int := if b < 0 then -b else b
theorem rgV_ran (a b : Int) : rgV a b = (ran a (b - a).toNat).map V.int := by
  unfold rgV ran
  rw [List.map_map]
  rfl
theorem ran_sorted (lo : Int) (n : Nat) : (ran lo n).Pairwise (· ≤ ·) := by
  unfold ran
  rw [List.pairwise_map]
  exact List.pairwise_lt_range.imp fun {a b} h => by omega
theorem abs_perm {m : Nat} {bs : List Int} (h : PermB m bs) : (bs.map absI).Perm (ran 1 m) := by
  have e1 : bs.map absI = (bs.map Int.natAbs).map fun n : Nat => (n : Int) := by
    rw [List.map_map]
    apply List.map_congr_left
    intro b _
    show absI b = ((b.natAbs : Nat) : Int)
    unfold absI
    split <;> omega
  have e2 : ran 1 m = (List.range' 1 m).map fun n : Nat => (n : Int) := by
    unfold ran
    rw [List.range'_eq_map_range, List.map_map]
    apply List.map_congr_left
    intro i _
    show (1 : Int) + (i : Int) = ((1 + i : Nat) : Int)
    omega
  rw [e1, e2]
  exact h.map _
theorem ok_init (A : AtM K C "__init__" "Exchange.__init__" s_init) (X : ExT K mg C) (T : Nm mg) : OkM P w K mg base CX0 1 C "__init__" ["self", "blocks"] (spInit C) := by
  refine mk_okM A sc_init (fun _ _ _ _ _ _ us hl => match us, hl with | [_, _], _ => rfl) (fun vs H Q E h => ?_) (fun f cdv A outer s H vs Q E hr h => ?_)
  · obtain ⟨x, t, dx, bs, m, rfl, _⟩ := h
    rfl
  · obtain ⟨x, t, dx, bs, m, rfl, hx, ht, hp, hm, q⟩ := h
    have hso : bootBuiltins "sorted" = some (.builtin "sorted") := by decide +kernel
    have hab : bootBuiltins "abs" = some (.builtin "abs") := by decide +kernel
    refine ⟨_, pss_cons (ps_if (pt_cmpR (op_neD hr.units) (pe_callB cr_sorted (by rfl) T.sorted hso (pa_cons (pe_lc (own := [("block", 2)]) (g := gName 2) (tt := tYes) rfl sc_init.nd (pi_tup (pv 1)) (blkOk_by (N := N_init) (sc := defScope s_init) (by decide +kernel))
          (fun _ _ _ _ _ => pg_name (i := 2) sc_init.nd rfl (Or.inl rfl)) (fun _ _ _ _ _ => pts_nil) (fun _ _ _ _ _ => pe_callB call_abs (by rfl) T.abs hab (pa_cons (pv 2) pa_nil))) pa_nil))
        (pe_listRg rfl (by rfl) T.list (prg_2 (by rfl) T.range pe_int (pe_op op_add (pe_callB call_len_seq (by rfl) T.len PySem.boot_len (pa_cons (pv 1) pa_nil)) pe_int))) (nomark _)) (pss_one ps_never) pss_nil)
      (pss_cons (ps_if (pt_cmpR op_gt (pe_callB call_len_seq (by rfl) T.len PySem.boot_len (pa_cons (pv 1) pa_nil)) (ClX.pe_cval (pe_glob (by rfl) X.gC (v := .ref C) rfl)) (nomark _)) (pss_one ps_never) pss_nil)
      (pss_one (ps_fld (pv 0) (pe_tupleOf rfl T.tuple (pv 1)) rfl))), ?_⟩
    refine ⟨_, rfl, t, rfl, ⟨_, SqT.of ht⟩, fun D nD => lc_tup (K := K) (a := t) (xs := bs.map V.int) (fun i H' => Same H H' ∧ H' D = some (.lst (((bs.take i).map absI).map V.int)))
      ⟨same_new nD, upd_same⟩ (fun i H' _ ⟨sm, _⟩ => SqT.of (sm _ _ ht)) ?_ ?_⟩
    · rintro i v H' hv ⟨sm, hD⟩
      obtain ⟨b, rfl, hb⟩ := int_of hv
      refine ⟨rfl, _, rfl, b, rfl, _, hD, ?_, same_put nD sm, ?_⟩
      · rw [List.length_map, List.length_map, List.length_take]
        have := (List.getElem?_eq_some_iff.mp hb).1
        have := hp.len
        exact line_gt (by omega)
      · rw [upd_same, take_more hb, List.map_append, List.map_append]
        rfl
    · rintro H1 ⟨sm, hD⟩
      rw [List.length_map, List.take_length] at hD
      have hl := hp.len
      refine ⟨D, bs.map absI, rfl, SqL.of hD, by rw [List.length_map]; omega, fun ns' p perm rising np => ?_⟩
      have s2 : Same H (upd H1 p (.lst (ns'.map V.int))) := sm.trans (same_new np)
      have ens : ns' = ran 1 m := sorted_ints_eq (perm.trans (abs_perm hp)) rising (ran_sorted 1 m)
      refine ⟨_, rfl, t, _, rfl, .inr (SqT.of (s2 _ _ ht)), _, _, rfl, rfl, 1, _, rfl, rfl, ?_, fun r nr => ?_⟩
      · rw [List.length_map]
        exact RgOk.of_le (by decide) (by show (bs.length : Int) + 1 ≤ 16777216; omega) (by decide) (by show (0 : Int) ≤ (bs.length : Int) + 1; omega)
      · have e4 : ((((bs.map V.int).length : Int) + 1) - 1).toNat = m := by
          rw [List.length_map]
          omega
        have hpr : p ≠ r := ne_of_none upd_same nr
        have hP : SqL K (upd (upd H1 p (.lst (ns'.map V.int))) r (.lst (rgV 1 (((bs.map V.int).length : Int) + 1)))) p (ns'.map V.int) := SqL.of (by rw [upd_ne hpr]; exact upd_same)
        have hR : SqL K (upd (upd H1 p (.lst (ns'.map V.int))) r (.lst (rgV 1 (((bs.map V.int).length : Int) + 1)))) r ((ran 1 m).map V.int) := SqL.of (by rw [upd_same, rgV_ran, e4])
        refine ⟨.list (ns'.map PyData.int), .list ((ran 1 m).map PyData.int), .lst hP (dp_ints _), .lst hR (dp_ints _), shaped_ints _, shaped_ints _, _, rfl, ?_⟩
        have e5 : PyData.eqv (.list (ns'.map PyData.int)) (.list ((ran 1 m).map PyData.int)) = true := by
          show PyData.eqvAll _ _ = true
          rw [eqv_ints, ens]
          exact decide_eq_true rfl
        rw [e5]
        refine iteF ?_
        have s3 : Same H (upd (upd H1 p (.lst (ns'.map V.int))) r (.lst (rgV 1 (((bs.map V.int).length : Int) + 1)))) := s2.trans (same_new nr)
        obtain ⟨mc, u, r1, r2⟩ := X.rd
        refine ⟨_, rfl, t, _, rfl, .inr (SqT.of (s3 _ _ ht)), C, mc, .int 12, u, rfl, r1, r2, _, _, rfl, rfl, _, rfl, ?_⟩
        have e6 : decide ((12 : Int) < ((bs.map V.int).length : Int)) = false := decide_eq_false (by rw [List.length_map]; omega)
        rw [e6]
        refine iteF ?_
        refine ⟨_, rfl, .inr ⟨t, _, rfl, SqT.of (s3 _ _ ht), _, rfl, x, C, dx, _, rfl, s3 _ _ hx, X.cl, X.nB, (by show 0 < 1000; decide), ?_⟩⟩
        refine q _ (fun b o hb e => ?_) upd_same
        rw [upd_ne hb]
        exact s3 _ _ e

/-! ### rearranged, __call__ -/
def spRe (C : Addr) (K : PySem.W.Frag) : Sp := fun vs H Q _ => ∃ (x b : Addr) (bs : List Int) (ps : List (List Nat)), vs = [.ref x, .ref b] ∧ ExAt C H x bs ∧ H b = some (.lst (txs ps)) ∧ bs.length = ps.length ∧ Fits bs ps ∧ bs.length ≤ 30 ∧ (∀ p ∈ ps, p.length ≤ 30) ∧
  ∀ (H' : Hp) (p : Addr), Same H H' → H p = none → H' p = some (.lst (txs (moved bs ps))) → Q (.ref p) H'
abbrev N_re : List Str := ["self", "texts", "block"]
abbrev s_re : Stmt := inClass (topS 7) 3
theorem sc_re : FnScope N_re ["self", "texts"] (defScope s_re) := ⟨rfl, rfl, rfl, by decide +kernel, rfl, by decide +kernel, by decide +kernel⟩
theorem ok_re (A : AtM K C "rearranged" "Exchange.rearranged" s_re) (X : ExT K mg C) (T : Nm mg) : OkM P w K mg base CX0 1 C "rearranged" ["self", "texts"] (spRe C K) := by
  refine mk_okM A sc_re (fun _ _ _ _ _ _ us hl => match us, hl with | [_, _], _ => rfl) (fun vs H Q E h => ?_) (fun f cdv A outer s H vs Q E hr h => ?_)
  · obtain ⟨x, b, bs, ps, rfl, _⟩ := h
    rfl
  · obtain ⟨x, b, bs, ps, rfl, ⟨dx, t, hx, ht⟩, hB, hl, fit, h30, hp30, q⟩ := h
    refine ⟨_, pss_cons (ps_if (pt_cmpR op_ne (pe_callB call_len_seq (by rfl) T.len PySem.boot_len (pa_cons (pv 1) pa_nil)) (pe_callB call_len_seq (by rfl) T.len PySem.boot_len (pa_cons (pe_fld (pv 0) rfl) pa_nil)) (nomark _)) (pss_one ps_never) pss_nil)
      (pss_one (ps_ret (pe_lc (own := [("block", 2)]) (g := gName 2) (tt := tYes) rfl sc_re.nd (pi_tup (pe_fld (pv 0) rfl)) (blkOk_by (N := N_re) (sc := defScope s_re) (by decide +kernel))
        (fun _ _ _ _ _ => pg_name (i := 2) sc_re.nd rfl (Or.inl rfl)) (fun _ _ _ _ _ => pts_nil)
        (fun _ _ _ _ _ => pe_ifExp (pt_cmpR op_gt (pv 2) pe_int (nomark _)) (pe_ix (r := rIxL K) ix_list (pv 1) (pe_op op_sub (pv 2) pe_int) (fun _ _ => rfl))
          (pe_revT (pe_ix (r := rIxL K) ix_list (pv 1) (pe_op op_sub (pe_un un_neg (pv 2)) pe_int) (fun _ _ => rfl))))))), ?_⟩
    have lk : ([("blocks", V.ref t)] : List (Str × V)).lookup ("blocks" : Str) = some (V.ref t) := by simp [List.lookup]
    refine ⟨_, rfl, b, _, rfl, .inl (SqL.of hB), _, rfl, x, C, dx, _, _, rfl, hx, X.cl, X.nB, lk, t, _, rfl, .inr (SqT.of ht), rfl, _, rfl, ?_⟩
    rw [dec_ints, txs_len, List.length_map, hl, decide_eq_true rfl]
    refine iteF ?_
    refine ⟨_, rfl, x, C, dx, _, _, rfl, hx, X.cl, X.nB, lk, t, rfl, ⟨_, SqT.of ht⟩, fun D nD => lc_tup (K := K) (a := t) (xs := bs.map V.int) (fun i H' => Same H H' ∧ H' D = some (.lst (txs (moved (bs.take i) ps))))
      ⟨same_new nD, upd_same⟩ (fun i H' _ ⟨sm, _⟩ => SqT.of (sm _ _ ht)) ?_ ?_⟩
    · rintro i v H' hv ⟨sm, hD⟩
      obtain ⟨n, rfl, hn⟩ := int_of hv
      obtain ⟨n1, n2⟩ := fit n (List.mem_of_getElem? hn)
      have hil : i < bs.length := (List.getElem?_eq_some_iff.mp hn).1
      have hB' : SqL K H' b (txs ps) := SqL.of (sm _ _ hB)
      have small : (txs (moved (bs.take i) ps)).length < sizeLine := by
        rw [txs_len]
        unfold moved
        rw [List.length_map, List.length_take]
        exact line_gt (by omega)
      refine ⟨rfl, _, rfl, _, _, rfl, rfl, _, rfl, ite2 (fun e => ?_) (fun e => ?_)⟩
      · have e1 : 0 < n := of_decide_eq_true e
        have em : mv ps n = ps.getD (n - 1).toNat [] := if_pos e1
        refine ⟨_, rfl, _, rfl, _, _, rfl, rfl, b, _, _, _, rfl, rfl, hB', at_of (j := (n - 1).toNat) (by omega) (txs_get (by omega)), _, hD, small, same_put nD sm, ?_⟩
        rw [upd_same, moved_more hn, txs_snoc, em]
      · have e1 : ¬ 0 < n := fun z => e (decide_eq_true z)
        have em : mv ps n = (ps.getD (-n - 1).toNat []).reverse := if_neg e1
        refine ⟨_, rfl, _, rfl, n, rfl, _, _, rfl, rfl, b, _, _, _, rfl, rfl, hB', at_of (j := (-n - 1).toNat) (by omega) (txs_get (by omega)), _, rfl, ?_, _, hD, small, same_put nD sm, ?_⟩
        · rw [S_len]
          exact line_ge (Nat.le_trans (getD_le hp30) (by decide))
        · rw [upd_same, moved_more hn, txs_snoc, em, S_codes']
          rfl
    · rintro H' ⟨sm, hD⟩
      rw [List.length_map, List.take_length] at hD
      exact q H' D sm nD hD
theorem flat_len {bs : List Int} {ps : List (List Nat)} (h30 : bs.length ≤ 30) (hp30 : ∀ p ∈ ps, p.length ≤ 30) : (((moved bs ps).map S).map (·.length)).sum ≤ 900 := by
  have h1 : ∀ (bs : List Int), (((moved bs ps).map S).map (·.length)).sum ≤ 30 * bs.length := by
    intro bs
    induction bs with
    | nil => exact Nat.le_refl 0
    | cons b r ih =>
      have h2 : (S (mv ps b)).length ≤ 30 := by
        rw [S_len]
        unfold mv
        split
        · exact getD_le hp30
        · rw [List.length_reverse]
          exact getD_le hp30
      show (S (mv ps b)).length + (((moved r ps).map S).map (·.length)).sum ≤ 30 * (r.length + 1)
      omega
  have := h1 bs
  omega
def spEx (C : Addr) (K : PySem.W.Frag) : Sp := fun vs H Q _ => ∃ (x b : Addr) (bs : List Int) (ps : List (List Nat)), vs = [.ref x, .ref b] ∧ ExAt C H x bs ∧ H b = some (.lst (txs ps)) ∧ bs.length = ps.length ∧ Fits bs ps ∧ bs.length ≤ 30 ∧ (∀ p ∈ ps, p.length ≤ 30) ∧
  ∀ (H' : Hp), Same H H' → Q (.str (S (moved bs ps).flatten)) H'
abbrev s_ex : Stmt := inClass (topS 7) 5
theorem sc_ex : FnScope ["self", "texts"] ["self", "texts"] (defScope s_ex) := ⟨rfl, rfl, rfl, by decide +kernel, rfl, by decide +kernel, by decide +kernel⟩
theorem ok_ex (A : AtM K C "__call__" "Exchange.__call__" s_ex) (X : ExT K mg C) (T : Nm mg) (R : OkM P w K mg base CX0 1 C "rearranged" ["self", "texts"] (spRe C K)) : OkM P w K mg base CX0 2 C "__call__" ["self", "texts"] (spEx C K) := by
  obtain ⟨fR, fdR, gR, i1, i2, kR, bR, GR⟩ := R
  refine mk_okM A sc_ex (fun _ _ _ _ _ _ us hl => match us, hl with | [_, _], _ => rfl) (fun vs H Q E h => ?_) (fun f cdv A outer s H vs Q E hr h => ?_)
  · obtain ⟨x, b, bs, ps, rfl, _⟩ := h
    rfl
  · obtain ⟨x, b, bs, ps, rfl, ⟨dx, t, hx, ht⟩, hB, hl, fit, h30, hp30, q⟩ := h
    refine ⟨_, pss_one (ps_ret (pe_join pe_str (pe_meth (pv 0) X.cl ⟨gR, i1, kR⟩ GR hr bR .nil pass0 (pa_cons (pv 1) pa_nil)))), ?_⟩
    have lk : ([("blocks", V.ref t)] : List (Str × V)).lookup ("rearranged" : Str) = none := by
      have : (("rearranged" : Str) == "blocks") = false := by decide +kernel
      simp [List.lookup, this]
    refine ⟨⟨_, rfl⟩, _, rfl, x, dx, _, rfl, hx, lk, _, rfl, x, b, bs, ps, rfl, ⟨dx, t, hx, ht⟩, hB, hl, fit, h30, hp30, fun H' p sm np hp => ?_⟩
    refine ⟨_, p, _, rfl, rfl, .inl (SqL.of hp), ?_, ?_⟩
    · have h1 := flat_len (bs := bs) (ps := ps) h30 hp30
      show _ + _ * 0 ≤ 16777216
      omega
    · rw [join_S]
      exact q H' sm

/-! ### leads -/
/-- f(e, ..), f an expression that gives an instance with a dict of C -/
def tCallI (C : Addr) (sp : Sp) (E : XK) (tf : TE) (t : TA) : TE := fun σ H Q => tf σ H fun y H1 => ∃ a, y = V.ref a ∧ t σ H1 fun vs H2 => (∃ dx fs, H2 a = some (.ins C dx fs)) ∧ sp (V.ref a :: vs) H2 Q E
theorem pe_callI {X : Cx} {CX : CXT} {k : Nat} {C g : Addr} {sp : Sp} {E : XK} {fe e : Expr} {es : List Expr} {pos : Pos} {tf : TE} {t : TA} (hf : PE X fe tf) (c : StX.CallO X.K C g) (F : FnR X.prog X.w X.K X.mg X.base CX k g sp) (hr : Room k X.A) (hx : Passes CX X E) (ha : PA X (e :: es) t)
    (ht : eval (.Call fe (e :: es) [] pos) X.env = (do callWith pos (← eval fe X.env) [] (backTo pos (starEach (e :: es) X.env)) (backToKw pos (keywordEach [] X.env))) := by rfl)
    (he : starEach (e :: es) X.env = (false, eval e X.env) :: starEach es X.env := by rfl) (hpl : (backTo pos (starEach es X.env)).any (·.1) = false := by rfl) : PE X (.Call fe (e :: es) [] pos) (tCallI C sp E tf t) := by
  refine ⟨fun pins s σ H Q I h => ?_⟩
  refine Call_ (thn (hf.run pins s σ H _ I h) fun u s1 ⟨y, H1, I1, ry, a, ey, q⟩ => ?_) ht
  subst ey
  obtain rfl : u = Value.ref a := ry
  refine StX.callO_with (thn (ha.run pos pins s1 σ H1 _ I1 q) fun us s2 ⟨vs, H2, I2, r, hi, q2⟩ => ?_) he hpl
  obtain ⟨ox, od, J, hd⟩ := StX.insC_at I2 (.inr hi)
  exact ⟨⟨C, ox, od, J, hd⟩, StX.run_callO c F hr hx I2 (.inr hi) r q2⟩
def spLeads (C : Addr) : Sp := fun vs H Q _ => ∃ (x : Addr) (t o : List Nat) (bs : List Int) (m : Nat), vs = [.ref x, .str (S t), .str (S o)] ∧ ExAt C H x bs ∧ PermB m bs ∧ m ≤ 8 ∧ t.length ≤ 8 ∧ t.length = o.length ∧
  ∀ (H' : Hp) (p : Addr), Bld H H' p ((cuts t.length m).filter (hit t o bs)) → Q (.ref p) H'
abbrev N_leads : List Str := ["exchange", "text", "other", "found", "lengths"]
theorem sc_leads : FnScope N_leads ["exchange", "text", "other"] (defScope (topS 11)) := ⟨rfl, rfl, rfl, by decide +kernel, rfl, by decide +kernel, by decide +kernel⟩
theorem pieces_le {t : List Nat} (h : t.length ≤ 30) : ∀ (l : List Int) (a : Nat), ∀ p ∈ pieces t a l, p.length ≤ 30
  | [], _, p, hp => by cases hp
  | x :: r, a, p, hp => by
    rcases List.mem_cons.mp (show p ∈ (t.drop a).take x.toNat :: pieces t (a + x.toNat) r from hp) with rfl | hp
    · rw [List.length_take, List.length_drop]
      omega
    · exact pieces_le h r _ p hp
theorem dec_S (a b : List Nat) : decide (V.str (S a) = V.str (S b)) = decide (a = b) := by
  by_cases c : a = b
  · rw [c]
    rw [decide_eq_true rfl, decide_eq_true rfl]
  · rw [decide_eq_false c]
    exact decide_eq_false fun z => c (tx_inj z)
theorem ok_leads (A : At K mg "leads" (topS 11)) (X : ExT K mg C) (T : Nm mg) (G1 : Ok P w K mg base CX0 1 "cuttings" ["length", "many"] spCuts) (G2 : Ok P w K mg base CX0 1 "pieces_of" ["text", "lengths"] (spCut K))
    (G3 : OkM P w K mg base CX0 2 C "__call__" ["self", "texts"] (spEx C K)) : Ok P w K mg base CX0 3 "leads" ["exchange", "text", "other"] (spLeads C) := by
  obtain ⟨fC, fdC, gC, kC, bC, GC⟩ := G1
  obtain ⟨fP, fdP, gP, kP, bP, GP⟩ := G2
  obtain ⟨fE, fdE, gE, e1, e2, kE, bE, GE⟩ := G3
  refine mk_ok A sc_leads (fun _ _ _ _ _ _ us hl => match us, hl with | [_, _, _], _ => rfl) (fun vs H Q E h => ?_) (fun f cdv A outer s H vs Q E hr h => ?_)
  · obtain ⟨x, t, o, bs, m, rfl, _⟩ := h
    rfl
  · obtain ⟨x, t, o, bs, m, rfl, hX, hp, hm, ht, hto, q⟩ := h
    have hr1 : Room 1 (A.deeper (envOfC "leads" (defScope (topS 11)) s.heap.objs.size f cdv)) := hr.mono (by decide)
    refine ⟨_, pss_cons (ps_if (pt_cmpR op_ne (pe_callB call_len_str (by rfl) T.len PySem.boot_len (pa_cons (pv 1) pa_nil)) (pe_callB call_len_str (by rfl) T.len PySem.boot_len (pa_cons (pv 2) pa_nil)) (nomark _)) (pss_one ps_never) pss_nil)
      (pss_cons (ps_set (i := 3) sc_leads.nd rfl (.inl rfl) (pe_call GC hr1 (by rfl) gC kC bC .nil pass0 (pa_cons (pe_callB call_len_str (by rfl) T.len PySem.boot_len (pa_cons (pv 1) pa_nil)) (pa_cons (pe_callB call_len_seq (by rfl) T.len PySem.boot_len (pa_cons (pe_fld (pv 0) rfl) pa_nil)) pa_nil))))
      (pss_one (ps_ret (pe_lc (own := [("lengths", 4)]) (g := gName 4) rfl sc_leads.nd (pi_list (pv 3)) (blkOk_by (N := N_leads) (sc := defScope (topS 11)) (by decide +kernel))
        (fun _ _ _ _ _ => pg_name (i := 4) sc_leads.nd rfl (Or.inl rfl))
        (tt := tTest (tOp rEq (tCallI C (fun vs H Q E => spEx C K (vs ++ []) H Q E) E0 (tVar 0) (tCons (tCall (spCut K) [] E0 (tCons (tVar 1) (tCons (tVar 4) tNil))) tNil)) (tVar 2)))
        (fun _ _ _ _ _ => pts_one (pt_cmpR op_eq (pe_callI (E := E0) (pv 0) (⟨gE, e1, e2⟩ : StX.CallO K C fE) (GE.raw bE .nil) hr pass0 (pa_cons (pe_call GP hr1 (by rfl) gP kP bP .nil pass0 (pa_cons (pv 1) (pa_cons (pv 4) pa_nil))) pa_nil)) (pv 2) (nomark _)))
        (fun _ _ _ _ _ => pv 4))))), ?_⟩
    obtain ⟨dx, u, hx, hu⟩ := hX
    have hbl := hp.len
    have lk : ([("blocks", V.ref u)] : List (Str × V)).lookup ("blocks" : Str) = some (V.ref u) := by simp [List.lookup]
    have z1 : ∀ (l : List Nat), l.length ≤ 8 → (S l).length ≤ sizeLine := fun l h => by
      rw [S_len]
      exact line_ge (by omega)
    refine ⟨_, rfl, _, rfl, z1 t ht, _, rfl, _, rfl, z1 o (by omega), rfl, _, rfl, ?_⟩
    rw [dec_ints, S_len, S_len, hto, decide_eq_true rfl]
    refine iteF ?_
    refine ⟨_, rfl, _, rfl, z1 t ht, _, rfl, x, C, dx, _, _, rfl, hx, X.cl, X.nB, lk, u, _, rfl, .inr (SqT.of hu), t.length, m, ?_, ht, hm, fun H1 fo B => ?_⟩
    · rw [S_len, List.length_map, hbl]
      rfl
    obtain ⟨ys, hfo, TY⟩ := B.ex
    have hcm := cuts_small (n := t.length) (m := m) ht hm
    refine ⟨_, rfl, fo, rfl, ⟨_, SqL.of hfo⟩, fun D nD => lc_list (K := K) (a := fo) (xs := ys) (fun i H' => Bld H1 H' D (((cuts t.length m).take i).filter (hit t o bs))) (Bld.start (Same.refl _) nD) (fun i H' _ b => SqL.of (b.same _ _ hfo)) ?_ ?_⟩
    · rintro i v H' hv b
      obtain ⟨q1, l, rfl, hl, hq1⟩ := TY.get hv
      obtain ⟨l1, l2, l3⟩ := mem_cuts.mp (List.mem_of_getElem? hl)
      have hx' := b.same _ _ (B.same _ _ hx)
      have hu' := b.same _ _ (B.same _ _ hu)
      have hq' := b.same _ _ hq1
      refine ⟨rfl, _, rfl, x, rfl, _, rfl, _, rfl, q1, t, l, rfl, SqT.of hq', fun y hy => by have := l2 y hy; omega, by omega, by omega, fun H2 p2 sm2 np2 hp2 => ?_⟩
      have hfit : Fits bs (pieces t 0 l) := hp.fits (by rw [pieces_len]; exact l1)
      refine ⟨⟨_, _, sm2 _ _ hx'⟩, x, p2, bs, pieces t 0 l, rfl, ⟨dx, u, sm2 _ _ hx', sm2 _ _ hu'⟩, hp2, by rw [pieces_len]; omega, hfit, by omega, pieces_le (by omega) l 0, fun H3 sm3 => ?_⟩
      refine ⟨_, rfl, rfl, ?_⟩
      have e1 : decide (V.str (S (moved bs (pieces t 0 l)).flatten) = V.str (S o)) = hit t o bs l := dec_S _ _
      rw [e1, take_more hl, List.filter_append]
      have b3 : Bld H1 H3 D (((cuts t.length m).take i).filter (hit t o bs)) := b.mono (sm2.trans sm3)
      by_cases c : hit t o bs l = true
      · rw [c]
        refine ⟨_, rfl, iteT ?_⟩
        obtain ⟨acc, ha, TA⟩ := b3.ex
        have e2 : [l].filter (hit t o bs) = [l] := by simp [c]
        rw [e2]
        refine ⟨_, rfl, acc, ha, ?_, Bld.add b3.new b3.same ha TA (Same.refl _) (sm3 _ _ (sm2 _ _ hq'))⟩
        rw [TA.length]
        have h5 := List.length_filter_le (hit t o bs) ((cuts t.length m).take i)
        rw [List.length_take] at h5
        exact line_gt (by omega)
      · rw [Bool.not_eq_true] at c
        rw [c]
        refine ⟨_, rfl, iteF ?_⟩
        have e2 : [l].filter (hit t o bs) = [] := by simp [c]
        rw [e2, List.append_nil]
        exact b3
    · rintro H' b
      rw [TY.length, List.take_length] at b
      exact q H' D ⟨B.same.free b.new, B.same.trans b.same, b.ex⟩
end
end TW

set_option Elab.async false
set_option linter.all false
set_option maxRecDepth 100000
set_option maxHeartbeats 4000000
/-! TooLarge: made by its own __init__, which says super().__init__ -/
namespace PySem
namespace LargeX
open PySem.W PySem.Calls PyProof.Rows PySem.HandSPX
abbrev sL : Stmt := L2.inClass (TW.topS 4) 0
def bL (q1 q2 q3 q4 q5 q6 q7 q8 q9 q10 q11 q12 q13 q14 : Pos) (j : Nat) : List Stmt :=
  [.Expr (.Call (.Attribute (.Call (.Name "super" q1) [] [] q2) "__init__" q3) [.Constant (.str "limit exceeded") j q4] [] q5) q6,
   .Assign [.Attribute (.Name "self" q7) "what" q8] (.Name "what" q9) q10,
   .Assign [.Attribute (.Name "self" q11) "limit" q12] (.Name "limit" q13) q14]
theorem sc_cells : ∀ x ∈ (L2.defScope sL).names, x.2 ≠ .cell := by decide +kernel
theorem sc_locals (a b c : Value) : ∀ x ∈ [(("self" : Str), a), (("what" : Str), b), (("limit" : Str), c)], (L2.defScope sL).names.lookup x.1 = some .local := by
  intro x hx
  simp only [List.mem_cons, List.mem_nil_iff, or_false] at hx
  rcases hx with rfl | rfl | rfl <;> rfl
/-- what the written part says of TooLarge, at C -/
structure LargeTxt (P : Program) (K : Frag) (mg : Str → Option Value) (C fI cc cda : Addr) : Prop where
  gC : mg "TooLarge" = some (.ref C)
  cls : ∃ nm q N bs bm sn sub ab col dd k0 k1 k2 k3 k5, K.lookup C = some (excClassObj nm q C N bs bm true sn sub ab col dd k0 k1 k2 k3 k5 "ValueError.__new__") ∧ refsVE bm = true
  sa : findIn K (.ref C) "__setattr__" = some (some (.builtin "object.__setattr__"))
  ga : findIn K (.ref C) "__getattribute__" = some (some (.builtin "BaseException.__getattribute__"))
  gg : findIn K (.ref C) "__getattr__" = some none
  noW : findIn K (.ref C) "what" = some none
  noL : findIn K (.ref C) "limit" = some none
  iC : findIn K (.ref C) "__init__" = some (some (.ref fI))
  tC : typeIn K (.ref fI) = some (.type "function")
  kC : keepIn K (.ref C) = true
  exC : subIn K (.ref C) (.type "BaseException") = some true
  veC : subIn K (.ref C) (.type "ValueError") = some true
  tyC : typeIn K (.ref C) = some (.type "type")
  hdC : hasDictIn K C = true
  te : exmOne K (.ref C) (.ref C) = some true
  own : mroIn K C (.ref C) = some true
  su : ks_superIn K C C "__init__" = some (some (.builtin "ValueError.__init__"))
  tp : nsIn K cStatics "thirdparty.any" = some none
  sup : mg "super" = none
  fn : ∃ (oc : Value) (od : Option Addr) (kV doc pm : Value) (an : Option Addr) (ct : Value) (osl : Array (Option Value)),
    K.lookup fI = some ⟨oc, od, .func (ksFn "__init__" "TooLarge.__init__" (L2.defArgs sL) (L2.defBody sL) (L2.defScope sL) .none kV doc pm an (.ref cda) ct cc), osl⟩ ∧ codeIn K (.ref cda) "TooLarge.__init__" = true
  code : ∃ ccl cdd vs ccs file tf, K.lookup cda = some ⟨ccl, cdd, .fields vs, ccs⟩ ∧ vs[2]? = some (.str file tf) ∧ ((P.main.file : Str) == file) = true
  cell : ∃ cl cld csl, K.lookup cc = some ⟨cl, cld, .cell (some (.ref C)), csl⟩
  top : (P.main.scope.names.lookup ("super" : Str)).isSome = false
theorem kept_but {K : Frag} {h h' : Heap} {x : Addr} (X : K.In h) (hx : K.lookup x = none) (k : ∀ b o, b ≠ x → h.get? b = some o → h'.get? b = some o) : K.In h' := fun a o e =>
  k a o (fun z => by rw [z, hx] at e; cases e) (X a o e)
theorem two_size (u v : Value) : [u, v].length ≤ sizeLine := by
  rw [sizeLine_eq]
  exact (by decide : 2 ≤ 16777216)
/-- what __init__ leaves of a fresh exception at x -/
structure InitEnd (h h' : Heap) (x C dx t1 : Addr) (v1 v2 : Value) : Prop where
  keep : ∀ b o, b ≠ x → h.get? b = some o → h'.get? b = some o
  obj : h'.get? x = some { cls := .ref C, dict := some dx, data := .fields #[.ref t1, .none, .none, .none, .bool false, .none] }
  dbig : h.objs.size ≤ dx
  dne : dx ≠ x
  ns : h'.Ns1 dx (fun y => if y = "limit" then some v2 else if y = "what" then some v1 else none)
structure OwnMade (h h' : Heap) (e C d : Addr) (v1 v2 : Value) : Prop where
  keep : ∀ b o, h.get? b = some o → h'.get? b = some o
  new : h.objs.size ≤ e
  obj : ∃ oe vs, h'.get? e = some oe ∧ oe.cls = .ref C ∧ oe.dict = some d ∧ oe.data = .fields vs ∧ vs[1]? = some .none
  dbig : h.objs.size ≤ d
  dne : d ≠ e
  ns : h'.Ns1 d (fun y => if y = "limit" then some v2 else if y = "what" then some v1 else none)
section
variable {M : Model} {A : Around} {E : Value → Shared → Prop} {s : Shared} {u x : Addr} {i : String}
theorem callWith_mw {pos : Pos} {first : List Value} {env : Env} {e : Expr} {rest : List Expr} {Q : Value → Shared → Prop}
    (h : wpAny M A (spliced (backTo pos (starEach (e :: rest) env))) (fun vs s₁ => KxsAt i u x s₁.heap ∧ wpAny M A (call (.ref u) (first ++ vs)) Q E s₁) E s)
    (he : starEach (e :: rest) env = (false, eval e env) :: starEach rest env := by rfl) (hplain : (backTo pos (starEach rest env)).any (·.1) = false := by rfl) :
    wpAny M A (callWith pos (.ref u) first (backTo pos (starEach (e :: rest) env)) []) Q E s := by
  rw [he] at h ⊢
  refine kxs_callWith (i := i) (x := x) (by show (false || (backTo pos (starEach rest env)).any (·.1)) = false; rw [hplain]; rfl) ?_
  exact evalArgs_plain h
end
section
variable {prog : Program} {w : World} {A : Around} {E : Value → Shared → Prop} {h : Heap} {g : Array GenState} {d : Drawn} {t : Nat} {os : OsState}
variable {nm q : Str} {C N : Addr} {bs bm : List Value} {hdct : Bool} {sn : List Str} {sub : List Value} {ab : Bool} {col : Option Bool} {dd : Option Addr} {k0 k1 k2 k3 k5 : Option Value}
theorem call_mw {u e t0 : Addr} {rest : List Value} {Q : Value → Shared → Prop}
    (hC : h.get? C = some (excClassObj nm q C N bs bm hdct sn sub ab col dd k0 k1 k2 k3 k5 "ValueError.__new__")) (he : h.get? e = some (HandSPX.excO C t0)) (hu : h.get? u = some (kxs_mw "ValueError.__init__" e)) (hrest : rest.length ≤ sizeLine)
    (hq : ∀ h' t1, (∀ b o, b ≠ e → h.get? b = some o → h'.get? b = some o) → h'.get? e = some (HandSPX.excO C t1) → Q .none ⟨h', g, d, t, os⟩) :
    wpAny (model prog w) A (call (.ref u) rest) Q E ⟨h, g, d, t, os⟩ := by
  refine wpAny_call (codeAny_of_tree ?_)
  show wpAny _ A.in1 (callAny (.ref u) ⟨rest, []⟩) _ _ _
  simp only [callAny]
  refine wpAny_bind (wpAny_load hu ?_)
  simp only [kxs_mw, show (Value.type "method-wrapper" == Value.type "method" || Value.type "method-wrapper" == Value.type "builtin_function_or_method" || Value.type "method-wrapper" == Value.type "method-wrapper") = true by decide, if_true]
  refine W.KFB.if_so (by decide) ?_
  refine wpAny_bind (ESX.check_bound F.excBase_ValueError hC he rfl ?_)
  refine wpAny_bind (wpAny_pure (wpAny_pure ?_))
  refine ⟨Code.quiet_builtin _ (by decide +kernel), codeAny_builtin F.excBase_ValueError.initEntry ?_⟩
  rw [Around.under_plainId F.excBase_ValueError.init.plain _]
  wp_walk
  refine hq _ h.objs.size (fun b o hb ho => ?_) ?_
  · rw [Heap.get?_update_other _ _ (Ne.symm hb)]
    exact Heap.get?_push_of_some _ ho
  · rw [Heap.get?_update_self _ (Heap.get?_push_of_some _ he) rfl]
    rfl
end
section
variable {P : Program} {w : World} {A : Around} {R : Result → Shared → Prop} {s : Shared} {K : Frag} {mg : Str → Option Value} {C fI cc cda : Addr}
theorem large_init (T : LargeTxt P K mg C fI cc cda) {x t0 : Addr} {v1 v2 : Value} (X : K.In s.heap) (hlim : s.heap.NoLimit) (hx : s.heap.get? x = some (excO C t0)) (hnx : K.lookup x = none)
    (hgl : s.heap.Ns mainGlobals mg) (hbl : ∃ mb, s.heap.Ns builtinsNs mb ∧ ∀ x : Str, x ≠ "__name__" → mb x = bootBuiltins x) (hroom : A.depth < recursionLimit)
    (hq : ∀ h' tk dx t1, InitEnd s.heap h' x C dx t1 v1 v2 → R (.ok (.ret .none)) { s with heap := h', toks := tk }) :
    codeAny (model P w) A (.call (.ref fI) ⟨[.ref x, v1, v2], []⟩) R s := by
  obtain ⟨oc, od, kV, doc, pm, an, ct, osl, ho, hcd⟩ := T.fn
  obtain ⟨ccl, cdd, vs, ccs, file, tf, hcode, hvs, hfile⟩ := T.code
  obtain ⟨cl, cld, csl, hcell⟩ := T.cell
  obtain ⟨mb, hb1, hb2⟩ := hbl
  obtain ⟨nm, q, N, bs, bm, sn, sub, ab, col, dd, k0, k1, k2, k3, k5, hC, hbm⟩ := T.cls
  have hcl : clsIn K C = some { name := nm, bases := bs, mro := .ref C :: bm, ns := N, qualname := q, hasDict := true, slotNames := sn, subclasses := sub, abstract := ab, collection := col, hasDel := false } := by unfold clsIn; rw [hC] <;> rfl
  have hsu := T.su
  unfold ks_superIn at hsu
  rw [hcl, Option.bind_some] at hsu
  obtain ⟨hp, g, d, t, os⟩ := s
  refine ks_codeAny_call_defAt (fd := ksFn "__init__" "TooLarge.__init__" (L2.defArgs sL) (L2.defBody sL) (L2.defScope sL) .none kV doc pm an (.ref cda) ct cc) (body := L2.defBody sL)
    (binds := [("self", .ref x), ("what", v1), ("limit", v2)]) hroom (X _ _ ho) rfl hlim (codeRec_of X hcd) rfl (BindsTo.of_eq (by first | rfl | with_unfolding_all rfl)) sc_cells (sc_locals _ _ _) (fun h₁ hn k => ?_)
  show wpAt (model P w) (A.deeper (ksEnv "TooLarge.__init__" (L2.defScope sL) hp.objs.size fI (.ref cda) cc)) (.func _ (ksEnv "TooLarge.__init__" (L2.defScope sL) hp.objs.size fI (.ref cda) cc)) (execs (bL _ _ _ _ _ _ _ _ _ _ _ _ _ _ _) (ksEnv "TooLarge.__init__" (L2.defScope sL) hp.objs.size fI (.ref cda) cc)) _ _ _
  have X₁ : K.In h₁ := X.keeps k
  have hx₁ := k _ _ hx
  have hxC : x ≠ C := fun z => by
    rw [z, hC] at hnx
    cases hnx
  have hD1 : h₁.get? C = some (excClassObj nm q C N bs bm true sn sub ab col dd k0 k1 k2 k3 k5 "ValueError.__new__") := X₁ _ _ hC
  refine ks_wpAt_execs_cons (ks_wpAt_Expr_any (ks_wpAt_MethodCall (ks_wpAt_super_base (by rfl) (by rfl) (by rfl) rfl (X₁ _ _ ho) rfl rfl rfl (X₁ _ _ hcode) rfl hvs hfile T.top ?_)))
  refine ks_loadName_global (by rfl) (by rfl) (loadGlobal_builtin (hgl.keeps k) T.sup (hb1.keeps k) ((hb2 _ (by decide +kernel)).trans (by decide +kernel)) ⟨rfl, ?_⟩)
  refine wpAny_loadName_free (by rfl) (by rfl) rfl ⟨_, X₁ _ _ hcell, rfl⟩ ?_
  refine wpAny_loadName_local (by rfl) (by rfl) hn (v := .ref x) (by rfl) ?_
  refine ks_wpAny_isType_cls hD1 rfl ⟨rfl, ?_⟩
  refine ks_wpAny_call_super hD1 rfl hx₁ rfl (fun c e => by cases e) (looks_mroIn X₁ T.own) (fun h₂ e₂ k₂ => ?_)
  have X₂ : K.In h₂ := X₁.keeps k₂
  have hx₂ := k₂ _ _ hx₁
  have I₂ : InstAt h₂ x (excO C t0) C none := ⟨hx₂, rfl, rfl, trivial⟩
  refine kxs_getMethod kxs_ValueError e₂ (looks_opaque X₂ T.tp) (l₀ := .ref C :: bm) ((looks_clsIn X₂ hcl).andThen .now) rfl X₂ hsu (I₂.type.andThen (looks_subIn X₂ T.veC)) hxC (by rfl) ?_
  refine callWith_mw (i := "ValueError.__init__") (x := x) ?_
  refine spliced_more (Constant_str (spliced_none ?_))
  refine ⟨Heap.get?_push_at rfl rfl, ?_⟩
  have k₃ : ∀ b o, h₂.get? b = some o → (h₂.push (kxs_mw "ValueError.__init__" x)).get? b = some o := fun b o e => Heap.get?_push_of_some _ e
  refine call_mw ((X₂.keeps k₃) _ _ hC) (k₃ _ _ hx₂) (Heap.get?_push_at rfl rfl) (by rw [sizeLine_eq]; exact (by decide : 1 ≤ 16777216)) (fun h₄ t1 k₄ hx₄ => ?_)
  have kA : ∀ b o, b ≠ x → hp.get? b = some o → h₄.get? b = some o := fun b o hb e => k₄ b o hb (k₃ _ _ (k₂ _ _ (k _ _ e)))
  have X₄ : K.In h₄ := kept_but X hnx kA
  obtain ⟨oL, es, ep, hL, hrest⟩ := hn
  have hxL : hp.objs.size ≠ x := Nat.ne_of_gt (Heap.lt_size hx)
  have hL₄ := k₄ _ _ hxL (k₃ _ _ (k₂ _ _ hL))
  have big : ∀ {z : Addr}, hp.objs.size < h₄.objs.size := fun {_} => Heap.lt_size hL₄
  refine wpAt_of_wpAny ?_
  refine wpAny_execs_cons (plainObj_wpAny_Assign_Attribute ?_)
  have hn₄ : h₄.Ns hp.objs.size _ := ⟨oL, es, ep, hL₄, hrest⟩
  refine ESX.ldL hn₄ (by rfl) (ESX.ldL hn₄ (v := .ref x) (by rfl) ?_)
  refine set_plain X₄ (ox := excO C t1) (od := none) ⟨hx₄, rfl, rfl, trivial⟩ T.sa ?_
  refine exc_osa X₄ hx₄ hcl (show refsVE (.ref C :: bm) = true from hbm) rfl T.noW (fun h₅ tk₅ dx k₅ dn dne hx₅ hn₅ => ?_)
  have X₅ : K.In h₅ := kept_but X₄ hnx k₅
  have hL₅ := k₅ _ _ hxL hL₄
  have hn₆ : h₅.Ns hp.objs.size _ := ⟨oL, es, ep, hL₅, hrest⟩
  refine wpAny_execs_cons (plainObj_wpAny_Assign_Attribute ?_)
  refine ESX.ldL hn₆ (by rfl) (ESX.ldL hn₆ (v := .ref x) (by rfl) ?_)
  have hw : Within (fun y => if y = "what" then some v1 else none) ["what"] := Within.cons "what" v1 Within.nil
  obtain ⟨oD, _, _, hoD, _, _⟩ := hn₅.count hw
  refine set_plain X₅ (od := some oD) ⟨hx₅, rfl, rfl, hoD⟩ T.sa ?_
  refine OEX.osa_old X₅ hx₅ hn₅ hw (by decide) hcl (show refsVE (.ref C :: bm) = true from hbm) rfl T.noL (fun h₆ tk₆ k₆ hn₇ => ?_)
  show wpAny _ _ (execs _ _) _ _ _
  have bd : ∀ {b : Addr} {o : Obj}, hp.get? b = some o → b ≠ dx := fun {b o} e => Nat.ne_of_lt (Nat.lt_of_lt_of_le (Heap.lt_size e) (Nat.le_trans (Nat.le_of_lt (big (z := b))) dn))
  refine wpAny_execs_nil (hq h₆ tk₆ dx t1 ⟨fun b o hb e => k₆ b o (bd e) (k₅ b o hb (kA b o hb e)), k₆ _ _ (Ne.symm dne) hx₅, Nat.le_trans (Nat.le_of_lt (big (z := x))) dn, dne, hn₇⟩)
theorem large_made (T : LargeTxt P K mg C fI cc cda) {v1 v2 : Value} (X : K.In s.heap) (hlim : s.heap.NoLimit)
    (hgl : s.heap.Ns mainGlobals mg) (hbl : ∃ mb, s.heap.Ns builtinsNs mb ∧ ∀ x : Str, x ≠ "__name__" → mb x = bootBuiltins x) (hroom : A.depth + 1 < recursionLimit)
    (hq : ∀ h' tk e d, OwnMade s.heap h' e C d v1 v2 → R (.ok (.ret (.ref e))) { s with heap := h', toks := tk }) :
    codeAny (model P w) A (.call (.ref C) ⟨[v1, v2], []⟩) R s := by
  obtain ⟨nm, q, N, bs, bm, sn, sub, ab, col, dd, k0, k1, k2, k3, k5, hC, hbm⟩ := T.cls
  obtain ⟨hp, g, dr, tk, os⟩ := s
  have k : ∀ b o, hp.get? b = some o → ((hp.push (kdv_tup [v1, v2])).push (excO C hp.objs.size)).get? b = some o := fun b o e => Heap.get?_push_of_some _ (Heap.get?_push_of_some _ e)
  have hget : ((hp.push (kdv_tup [v1, v2])).push (excO C hp.objs.size)).get? (hp.objs.size + 1) = some (excO C hp.objs.size) := by heap_get
  have hnx : K.lookup (hp.objs.size + 1) = none := by
    cases e : K.lookup (hp.objs.size + 1) with
    | none => rfl
    | some o =>
      have z : hp.get? (hp.objs.size + 1) = some o := X _ _ e
      exact absurd (Nat.lt_of_succ_lt (Heap.lt_size z)) (Nat.lt_irrefl _)
  obtain ⟨mb, hb1, hb2⟩ := hbl
  refine call_own F.excBase_ValueError (fun X => refsVE_contains X bm hbm) (X _ _ hC) (looks_findIn X T.iC) (fun self => bind_fn X self T.tC) (two_size v1 v2) ?_
  refine large_init (s := ⟨(hp.push (kdv_tup [v1, v2])).push (excO C hp.objs.size), g, dr, tk, os⟩) T (X.keeps k) (hlim.keeps k) hget hnx (hgl.keeps k) ⟨mb, hb1.keeps k, hb2⟩ ?_ fun h' tk' dx t1 ⟨k', hx, dn, dne, hns⟩ => ?_
  · show A.depth + 1 < recursionLimit
    exact hroom
  · have old : ∀ b o, hp.get? b = some o → h'.get? b = some o := fun b o e => k' b o (Nat.ne_of_lt (Nat.lt_succ_of_lt (Heap.lt_size e))) (k b o e)
    have z : hp.objs.size + 1 + 1 ≤ dx := by
      first
        | (simpa only [Heap.size_push] using dn)
        | exact dn
        | (have q := dn; rw [Heap.size_push, Heap.size_push] at q; exact q)
    exact ⟨rfl, hq h' tk' (hp.objs.size + 1) dx ⟨old, Nat.le_succ _, ⟨_, _, hx, rfl, rfl, rfl, rfl⟩, Nat.le_trans (Nat.le_trans (Nat.le_succ _) (Nat.le_succ _)) z, dne, hns⟩⟩
end
end LargeX
end PySem
namespace TW
open PySem PySem.Spec PyProof.Rows L2
theorem relO_large {x1 x2 : V} {v1 v2 : Value} (r1 : RelV x1 v1) (r2 : RelV x2 v2) (f : Str) : RelO (List.lookup f [(("limit" : Str), x2), (("what" : Str), x1)]) (if f = "limit" then some v2 else if f = "what" then some v1 else none) :=
  relO_put r2 (fun g => relO_put (fs := []) (mA := fun _ => none) r1 (fun _ => True.intro) g) f
section
variable {X : Cx} {C fI cc cda : Addr}
/-- TooLarge(e, f) -/
def tMkLarge (C : Addr) (ta : TA) : L2.St → Hp → XK → Prop := fun σ H Q => ta σ H fun vs H1 => ∃ x1 x2, vs = [x1, x2] ∧ ∀ d, H1 d = none → Q (.ref C) (some d) (upd H1 d (.xd [(("limit" : Str), x2), (("what" : Str), x1)]))
theorem pmk_large {a b : Expr} {ta : TA} {p pos : Pos} {k : Nat} (T : PySem.LargeX.LargeTxt X.prog X.K X.mg C fI cc cda) (hr : Room (k + 1) X.A) (ha : PA X [a, b] ta) (hg : Gl X "TooLarge" := by rfl)
    (he : starEach (a :: [b]) X.env = (false, eval a X.env) :: starEach [b] X.env := by rfl) (hpl : (backTo pos (starEach [b] X.env)).any (·.1) = false := by rfl) :
    PMk X (.Call (.Name "TooLarge" p) [a, b] [] pos) (tMkLarge C ta) := by
  intro pins s σ H Q I h
  refine wpAny_Call_Name_kw (ld_glob I hg T.gC ?_)
  refine PySem.W.callWith_K (h₀ := X.base) I.ok.mod.kin T.kC (thn (ha.run pos pins s σ H _ I h) fun us s1 hh => ?_) he hpl
  obtain ⟨vs, H1, I1, r1, x1, x2, ev, q1⟩ := hh
  subst ev
  refine ⟨I1.kIn, ?_⟩
  obtain ⟨v1, us1, rfl, rv1, rn⟩ : ∃ v1 us1, us = v1 :: us1 ∧ RelV x1 v1 ∧ Vals [x2] us1 := by
    cases r1 with
    | cons a b => exact ⟨_, _, rfl, a, b⟩
  obtain ⟨v2, rfl, rv2⟩ : ∃ v2, us1 = [v2] ∧ RelV x2 v2 := by
    cases rn with
    | cons a b =>
      cases b
      exact ⟨_, rfl, a⟩
  · show wpAny _ _ (call (.ref C) [v1, v2]) _ _ _
    have hlim := I1.nolimit
    have hgl := I1.mod.glob.keeps I1.bk
    obtain ⟨mb, hb1, hb2⟩ := I1.mod.blt
    have hb1' := hb1.keeps I1.bk
    obtain ⟨hp, g, dr, tk, os⟩ := s1
    refine wpAny_call (PySem.LargeX.large_made T I1.kIn hlim hgl ⟨mb, hb1', hb2⟩ (by have := hr.dp; omega) fun h' tk' e d M => ?_)
    show MkP X pins σ Q (.ref e) ⟨h', g, dr, tk', os⟩
    obtain ⟨oe, fv, hoe, hc, hd, hdat, h1⟩ := M.obj
    have hns := M.ns
    obtain ⟨G', g1, g2⟩ := restrict h' fun b => decide (b ≠ e)
    have gk : ∀ b, b ≠ e → G'.get? b = h'.get? b := fun b hb => g1 b (decide_eq_true hb)
    have ge : G'.get? e = none := g2 e (by simp)
    have old : ∀ b o, hp.get? b = some o → G'.get? b = some o := fun b o q => (gk b (Nat.ne_of_lt (Nat.lt_of_lt_of_le (Heap.lt_size q) M.new))).trans (M.keep b o q)
    have ob : ObjOk X.prog X.w (upd H1 d (.xd [(("limit" : Str), x2), (("what" : Str), x1)])) G' d (.xd [(("limit" : Str), x2), (("what" : Str), x1)]) :=
      ⟨_, hns.at (fun o q => (gk d M.dne).trans q), fun f => relO_large rv1 rv2 f⟩
    have J : Inv X pins σ (upd H1 d (.xd [(("limit" : Str), x2), (("what" : Str), x1)])) ⟨G', g, dr, tk', os⟩ := I1.laid (t' := tk') old M.dbig ob
    refine ⟨e, oe, fv, ⟨G', g, dr, tk', os⟩, _, .ref C, some d, rfl, J, fun b o q => ?_, ge, hoe, ⟨hc, hd⟩, hdat, h1, ?_, rfl, I1.bare, raises_own T.exC T.tyC, q1 d (I1.hok.fresh M.dbig)⟩
    · by_cases hb : b = e
      · have q' : G'.get? b = some o := q
        rw [hb, ge] at q'; cases q'
      · exact (gk b hb).symm.trans q
    · rw [upd_ne (Ne.symm M.dne)]
      exact I1.hok.fresh M.new
/-- raise TooLarge(e, f) -/
def tRaiseLarge (C : Addr) (W : WX) (ta : TA) : TS := fun _ σ H => tMkLarge C ta σ H fun cls d H' => W cls d σ H'
theorem ps_raiseLarge {a b : Expr} {ta : TA} {W : WX} {p pos pos2 : Pos} {k : Nat} (hc : X.calm = true) (T : PySem.LargeX.LargeTxt X.prog X.K X.mg C fI cc cda) (hr : Room (k + 1) X.A) (tk : Takes X W) (ha : PA X [a, b] ta) (hg : Gl X "TooLarge" := by rfl)
    (he : starEach (a :: [b]) X.env = (false, eval a X.env) :: starEach [b] X.env := by rfl) (hpl : (backTo pos (starEach [b] X.env)).any (·.1) = false := by rfl) :
    PS X (.Raise (some (.Call (.Name "TooLarge" p) [a, b] [] pos)) none pos2) (tRaiseLarge C W ta) := ps_raise hc tk (pmk_large T hr ha hg he hpl)
end
end TW

set_option Elab.async false
set_option linter.all false
set_option maxRecDepth 100000
set_option maxHeartbeats 4000000
namespace TW
open PySem PySem.Spec PyProof.Rows L2
/-! ### the first that .. -/
theorem fs_miss {α β : Type} {f : α → Option β} {l : List α} {i : Nat} {x : α} (h : (l.take i).findSome? f = none) (hx : l[i]? = some x) (hf : f x = none) : (l.take (i + 1)).findSome? f = none := by
  rw [take_more hx, List.findSome?_append, h]
  simp [hf]
theorem fs_hit {α β : Type} {f : α → Option β} {l : List α} {i : Nat} {x : α} {a : β} (h : (l.take i).findSome? f = none) (hx : l[i]? = some x) (hf : f x = some a) : l.findSome? f = some a := by
  have e : l = l.take (i + 1) ++ l.drop (i + 1) := (List.take_append_drop _ _).symm
  rw [e, take_more hx, List.findSome?_append, List.findSome?_append, h]
  simp [hf]
theorem rs_miss {β : Type} {f : Nat → Option β} {i : Nat} (h : (List.range i).findSome? f = none) (hf : f i = none) : (List.range (i + 1)).findSome? f = none := by
  rw [List.range_succ, List.findSome?_append, h]
  simp [hf]
theorem rs_hit {β : Type} {f : Nat → Option β} {i n : Nat} {a : β} (h : (List.range i).findSome? f = none) (hi : i < n) (hf : f i = some a) : (List.range n).findSome? f = some a := by
  refine fs_hit (i := i) (x := i) ?_ (List.getElem?_range hi) hf
  rw [List.take_range, Nat.min_eq_left (Nat.le_of_lt hi)]
  exact h
/-- what fewest gives -/
def lawF (s : Bool) (t o : List Nat) : Option Ans := if t.Perm o then firstL s t o else none
/-! ### sorted texts -/
theorem sgs_S (t : List Nat) : sgs (S t) = t.map fun c => (⟨#[c]⟩ : Str) := rfl
theorem sgs_perm {t o : List Nat} (h : (sgs (S t)).Perm (sgs (S o))) : t.Perm o := by
  have e : ∀ t : List Nat, (sgs (S t)).map (fun z : Str => z.cps.toList.headD 0) = t := fun t => by
    rw [sgs_S, List.map_map]
    exact List.map_id t
  have := h.map fun z : Str => z.cps.toList.headD 0
  rw [e, e] at this
  exact this
theorem sorted_iff {t o : List Nat} {ys zs : List Str} (h1 : ys.Perm (sgs (S t))) (h2 : sortedS ys = true) (h3 : zs.Perm (sgs (S o))) (h4 : sortedS zs = true) : ys = zs ↔ t.Perm o := by
  constructor
  · intro e
    subst e
    exact sgs_perm (h1.symm.trans h3)
  · intro p
    exact sorted_strs_eq (h1.trans ((p.map _).trans h3.symm)) h2 h4
theorem ok_sgs {t : List Nat} {ys : List Str} (h1 : ys.Perm (sgs (S t))) (ht : OkT t) : ∀ y ∈ ys, OkT y.cps.toList := by
  intro y hy
  have := h1.mem_iff.mp hy
  rw [sgs_S] at this
  obtain ⟨c, hc, rfl⟩ := List.mem_map.mp this
  intro c' hc'
  rw [show ((⟨#[c]⟩ : Str).cps.toList) = [c] from rfl, List.mem_singleton] at hc'
  rw [hc']
  exact ht c hc
section
variable {P : Program} {w : World} {K : PySem.W.Frag} {mg : Str → Option Value} {base : Heap} {C CL fI cc cda : Addr}
/-! ### check_sizes -/
abbrev hoL : HO := .xd [(("limit" : Str), .int 8), (("what" : Str), .str "letters")]
def spCheck (CL : Addr) : Sp := fun vs H Q E => ∃ t o : List Nat, vs = [.str (S t), .str (S o)] ∧ t.length ≤ 30 ∧ o.length ≤ 30 ∧
  (8 < t.length ∨ 8 < o.length → ∀ d, H d = none → E (.ref CL) (some d) (upd H d hoL)) ∧ (t.length ≤ 8 → o.length ≤ 8 → Q .non H)
theorem sc_check : FnScope ["text", "other"] ["text", "other"] (defScope (topS 16)) := ⟨rfl, rfl, rfl, by decide +kernel, rfl, by decide +kernel, by decide +kernel⟩
theorem ok_check (A : At K mg "check_sizes" (topS 16)) (TL : PySem.LargeX.LargeTxt P K mg CL fI cc cda) (T : Nm mg) (M : ∃ tk, mg "MOST_SIGNS" = some (.int 8 tk)) : Ok P w K mg base (L2.CX P w) 2 "check_sizes" ["text", "other"] (spCheck CL) := by
  obtain ⟨tk, gM⟩ := M
  refine mk_okX A sc_check (fun _ _ _ _ _ _ us hl => match us, hl with | [_, _], _ => rfl) (fun vs H Q E h => ?_) (fun f cdv A outer s H vs Q E hr h => ?_)
  · obtain ⟨t, o, rfl, _⟩ := h
    rfl
  · obtain ⟨t, o, rfl, ht, ho, q1, q2⟩ := h
    have hmx : bootBuiltins "max" = some (.builtin "max") := by decide +kernel
    refine ⟨_, pss_one (ps_if (pt_cmpR op_gt (pe_callB (call_max2 rfl) (by rfl) T.max hmx (pa_cons (pe_callB call_len_str (by rfl) T.len PySem.boot_len (pa_cons (pv 0) pa_nil)) (pa_cons (pe_callB call_len_str (by rfl) T.len PySem.boot_len (pa_cons (pv 1) pa_nil)) pa_nil))) (pe_glob (by rfl) gM (v := .int 8) ⟨tk, rfl⟩) (nomark _))
      (pss_one (ps_raiseLarge (k := 0) rfl TL hr (takes_of rfl rfl rfl rfl) (pa_cons pe_str (pa_cons (pe_glob (by rfl) gM (v := .int 8) ⟨tk, rfl⟩) pa_nil)))) pss_nil), ?_⟩
    have z1 : ∀ (l : List Nat), l.length ≤ 30 → (S l).length ≤ sizeLine := fun l h => by
      rw [S_len]
      exact line_ge (by omega)
    refine ⟨_, rfl, _, rfl, z1 t ht, _, rfl, _, rfl, z1 o ho, _, _, rfl, _, _, rfl, rfl, _, rfl, ?_⟩
    have e1 : ((S t).length : Int) = (t.length : Int) := by rw [S_len]
    have e2 : ((S o).length : Int) = (o.length : Int) := by rw [S_len]
    rw [e1, e2]
    refine ite2 (fun e => ?_) (fun e => ?_)
    · have e' := of_decide_eq_true e
      refine ⟨_, _, rfl, fun d hd => q1 ?_ d hd⟩
      split at e' <;> omega
    · have e' : ¬ (8 : Int) < (if (o.length : Int) > (t.length : Int) then (o.length : Int) else (t.length : Int)) := fun z => e (decide_eq_true z)
      refine q2 ?_ ?_ <;> split at e' <;> omega
/-! ### fewest -/
/-- an answer of fewest -/
def FewAns (C : Addr) (H : Hp) : Option Ans → V → Prop
  | none, r => r = .non
  | some (bs, l), r => ∃ p x q, r = .ref p ∧ H p = some (.tup [.ref x, .ref q]) ∧ ExAt C H x bs ∧ H q = some (.tup (l.map V.int))
def spFew (C CL : Addr) : Sp := fun vs H Q E => ∃ (t o : List Nat) (sg : Bool), vs = [.str (S t), .str (S o), .bl sg] ∧ t.length ≤ 30 ∧ o.length ≤ 30 ∧ OkT t ∧ OkT o ∧
  (8 < t.length ∨ 8 < o.length → ∀ d, H d = none → E (.ref CL) (some d) (upd H d hoL)) ∧
  (t.length ≤ 8 → o.length ≤ 8 → ∀ (H' : Hp) (r : V), Same H H' → FewAns C H' (lawF sg t o) r → Q r H')
abbrev N_few : List Str := ["text", "other", "turned", "many", "blocks", "exchange", "found"]
theorem sc_few : FnScope N_few ["text", "other", "turned"] (defScope (topS 17)) := ⟨rfl, rfl, rfl, by decide +kernel, rfl, by decide +kernel, by decide +kernel⟩
theorem ok_few (A : AtD K mg "fewest" "turned" (topS 17)) (X : ExT K mg C) (T : Nm mg) (G1 : Ok P w K mg base (L2.CX P w) 2 "check_sizes" ["text", "other"] (spCheck CL))
    (G2 : OkD P w K mg base CX0 2 "lean_orders" "turned" ["many", "turned"] 1 spLean) (G3 : OkM P w K mg base CX0 1 C "__init__" ["self", "blocks"] (spInit C)) (G4 : Ok P w K mg base CX0 3 "leads" ["exchange", "text", "other"] (spLeads C)) :
    OkD P w K mg base (L2.CX P w) 4 "fewest" "turned" ["text", "other", "turned"] 2 (spFew C CL) := by
  obtain ⟨fK, fdK, gK, kK, bK, GK⟩ := G1
  obtain ⟨fL, fdL, gL, kL, bL, _, GL⟩ := G2
  obtain ⟨fI, fdI, gI, i1, i2, kI, bI, GI⟩ := G3
  obtain ⟨fD, fdD, gD, kD, bD, GD⟩ := G4
  obtain ⟨f, fd, g, F⟩ := A.ex
  refine ⟨f, fd, g, F.kp, ?_, ?_, ?_⟩
  · obtain ⟨oc, od, dV, kV, doc, pm, an, cdv, ct, osl, rfl, lk, hcd, hD, hK⟩ := F.ex
    rcases hD with ⟨_, rfl⟩ | ⟨e, _⟩
    · exact ⟨fun s us ws X l1 l2 => match us, ws, l1, l2 with | [_, _], [_], _, _ => .of_eq rfl, fun r1 r2 => r1.append r2⟩
    · exact absurd rfl e
  · exact F.binds0 2 (by simp) rfl fun D doc pm an cdv ct us ks l1 l2 => match us, ks, l1, l2 with | [_, _], [_], _, _ => ⟨_, _, _, _, _, _, rfl, rfl, rfl⟩
  · refine F.ok sc_few (fun vs H Q E h => ?_) (fun cdv A outer s H vs Q E hr h => ?_)
    · obtain ⟨t, o, sg, rfl, _⟩ := h
      rfl
    · obtain ⟨t, o, sg, rfl, ht, ho, kt, ko, q1, q2⟩ := h
      have hso : bootBuiltins "sorted" = some (.builtin "sorted") := by decide +kernel
      have hr2 : Room 2 (A.deeper (envOfC "fewest" (defScope (topS 17)) s.heap.objs.size f cdv)) := hr.mono (by decide)
      have hx := passes_call (X := cxOf (L2.CX P w) P w K mg base N_few "fewest" (defScope (topS 17)) f cdv A outer s H E) (E := E) (takes_of rfl rfl rfl rfl) (fun _ _ _ _ h => h)
      refine ⟨_, pss_cons (ps_expr (pe_call GK hr2 (by rfl) gK kK bK .nil hx (pa_cons (pv 0) (pa_cons (pv 1) pa_nil))))
        (pss_cons (ps_if (pt_cmpR (op_neD hr.units) (pe_callB (cr_sortedTx rfl) (by rfl) T.sorted hso (pa_cons (pv 0) pa_nil)) (pe_callB (cr_sortedTx rfl) (by rfl) T.sorted hso (pa_cons (pv 1) pa_nil)) (nomark _)) (pss_one (ps_ret pe_non)) pss_nil)
        (pss_cons (ps_for (passes_of rfl) rfl (pi_range1 rfl T.range (pa_cons (pe_op op_add (pe_callB call_len_str (by rfl) T.len PySem.boot_len (pa_cons (pv 0) pa_nil)) pe_int) pa_nil)) (pg_name (i := 3) sc_few.nd rfl (.inl rfl))
          (pss_one (ps_for (passes_of rfl) rfl (pi_list (pe_callN GL hr2 (by rfl) gL kL bL pass0 (pa_cons (pv 3) pa_nil) (pk_cons (pv 2) pk_nil))) (pg_name (i := 4) sc_few.nd rfl (.inl rfl))
            (pss_cons (ps_set (i := 5) sc_few.nd rfl (.inl rfl) (pe_make ⟨X.mks, gI, i1, X.kp⟩ GI hr2 (by rfl) X.gC bI .nil pass0 (pa_cons (pv 4) pa_nil)))
            (pss_cons (ps_set (i := 6) sc_few.nd rfl (.inl rfl) (pe_call GD hr (by rfl) gD kD bD .nil pass0 (pa_cons (pv 5) (pa_cons (pv 0) (pa_cons (pv 1) pa_nil)))))
            (pss_one (ps_if (pt_cmpR op_gt (pe_callB call_len_seq (by rfl) T.len PySem.boot_len (pa_cons (pv 6) pa_nil)) pe_int (nomark _))
              (pss_one (ps_ret (pe_tup (pa_cons (pv 5) (pa_cons (pe_ix (r := rIxL K) ix_list (pv 6) pe_int (fun _ _ => rfl)) pa_nil))))) pss_nil)))))))
        (pss_one (ps_ret pe_non)))), ?_⟩
      have z1 : ∀ (l : List Nat), l.length ≤ 30 → (S l).length ≤ sizeLine := fun l h => by
        rw [S_len]
        exact line_ge (by omega)
      refine ⟨_, rfl, _, rfl, t, o, rfl, ht, ho, q1, fun a8 b8 => ?_⟩
      refine ⟨_, rfl, S t, rfl, by rw [S_len]; omega, fun ys p1 r1 r2 n1 => ?_⟩
      refine ⟨_, rfl, S o, rfl, by rw [S_len]; omega, fun zs p2 r3 r4 n2 => ?_⟩
      have hp12 : p1 ≠ p2 := ne_of_none upd_same n2
      have hP : SqL K (upd (upd H p1 (.lst (ys.map V.str))) p2 (.lst (zs.map V.str))) p1 (ys.map V.str) := SqL.of (by rw [upd_ne hp12]; exact upd_same)
      have hR : SqL K (upd (upd H p1 (.lst (ys.map V.str))) p2 (.lst (zs.map V.str))) p2 (zs.map V.str) := SqL.of upd_same
      refine ⟨.list (ys.map PyData.str), .list (zs.map PyData.str), .lst hP (dp_strs _), .lst hR (dp_strs _), shaped_strs (ok_sgs r1 kt), shaped_strs (ok_sgs r3 ko), _, rfl, ?_⟩
      have e5 : PyData.eqv (.list (ys.map PyData.str)) (.list (zs.map PyData.str)) = decide (t.Perm o) := by
        show PyData.eqvAll _ _ = _
        rw [eqv_strs]
        exact decide_eq_decide.mpr (sorted_iff r1 r2 r3 r4)
      rw [e5]
      have s2 : Same H (upd (upd H p1 (.lst (ys.map V.str))) p2 (.lst (zs.map V.str))) := (same_new n1).trans (same_new n2)
      by_cases hp : t.Perm o
      case neg =>
        rw [decide_eq_false hp]
        refine iteT ?_
        refine q2 a8 b8 _ _ s2 ?_
        unfold lawF
        rw [if_neg hp]
        rfl
      case pos =>
        rw [decide_eq_true hp]
        refine iteF ?_
        have hlen : t.length = o.length := hp.length_eq
        have ef : lawF sg t o = (List.range (t.length + 1)).findSome? fun m => firstO t o (cuts t.length m) (leanL m sg m) := by
          unfold lawF
          rw [if_pos hp, ← first_same]
          unfold firstP
          congr 1
          funext m
          rw [cuts_same]
        have eN : (((S t).length : Int) + 1).toNat = t.length + 1 := by
          rw [S_len]
          omega
        refine ⟨_, rfl, _, rfl, z1 t ht, _, _, rfl, rfl, ((S t).length : Int) + 1, rfl, by omega, by rw [S_len]; omega, for_range (lo := 0) (n := (((S t).length : Int) + 1).toNat)
          (fun i σ H' => ∃ v3 v4 v5 v6, σ = [some (.str (S t)), some (.str (S o)), some (.bl sg), v3, v4, v5, v6] ∧ Same H H' ∧ ((List.range i).findSome? fun m => firstO t o (cuts t.length m) (leanL m sg m)) = none)
          ⟨none, none, none, none, rfl, s2, rfl⟩ ?_ ?_⟩
        · rintro i σ H1 hi ⟨v3, v4, v5, v6, rfl, sm, hf⟩
          rw [eN] at hi
          refine ⟨_, rfl, _, rfl, rfl, rfl, i, sg, by show [V.int ((0 : Int) + (i : Int)), V.bl sg] = _; rw [Int.zero_add], by omega, fun H2 fo B => ?_⟩
          obtain ⟨xs, hfo, TX⟩ := B.ex
          refine ⟨fo, rfl, ⟨_, SqL.of hfo⟩, for_list (K := K) (a := fo) (xs := xs)
            (fun j σ H' => ∃ v4 v5 v6, σ = [some (.str (S t)), some (.str (S o)), some (.bl sg), some (.int ((0 : Int) + (i : Int))), v4, v5, v6] ∧ Same H2 H' ∧ ((leanL i sg i).take j).findSome? (pick t o (cuts t.length i)) = none)
            ⟨_, _, _, rfl, Same.refl _, rfl⟩ (fun j σ H' _ ⟨_, _, _, _, sm2, _⟩ => SqL.of (sm2 _ _ hfo)) ?_ ?_⟩
          · rintro j v σ H3 hv ⟨v4, v5, v6, rfl, sm3, hf2⟩
            obtain ⟨q, bs, rfl, hbs, hq⟩ := TX.get hv
            have hq3 := sm3 _ _ hq
            have hmem := List.mem_of_getElem? hbs
            rw [leanL_eq] at hmem
            have hPB : PermB i bs := permB_of (List.mem_filter.mp hmem).1
            refine ⟨_, rfl, fun x dx nx nd ne => ?_⟩
            have hqx : q ≠ x := ne_of_none hq3 nx
            have hqd : q ≠ dx := ne_of_none hq3 nd
            have hq4 : (upd (upd H3 dx (.own x)) x (.ins C dx [])) q = some (.tup (bs.map V.int)) := by
              rw [upd_ne hqx, upd_ne hqd]
              exact hq3
            refine ⟨x, q, dx, bs, i, rfl, upd_same, hq4, hPB, by omega, fun H4 kp hx4 => ⟨rfl, ?_⟩⟩
            have sm4 : Same H3 H4 := fun b u e => kp b u (ne_of_none e nx) (by
              rw [upd_ne (ne_of_none e nx), upd_ne (ne_of_none e nd)]
              exact e)
            have hq5 := kp _ _ hqx hq4
            refine ⟨_, rfl, _, rfl, _, rfl, x, t, o, bs, i, rfl, ⟨dx, q, hx4, hq5⟩, hPB, by omega, a8, hlen, fun H5 fd B5 => ?_⟩
            obtain ⟨ys5, hy5, T5⟩ := B5.ex
            refine ⟨_, rfl, fd, _, rfl, .inl (SqL.of hy5), _, _, rfl, rfl, _, rfl, ?_⟩
            have hhead : ((cuts t.length i).filter (hit t o bs)).head? = (cuts t.length i).find? (hit t o bs) := List.head?_filter
            cases hfl : (cuts t.length i).filter (hit t o bs) with
            | nil =>
              rw [hfl] at T5 hhead
              have hy0 : ys5.length = 0 := T5.length
              have hpk : pick t o (cuts t.length i) bs = none := by
                unfold pick
                rw [← hhead]
                rfl
              refine ite2 (fun e => ?_) (fun _ => ?_)
              · have := of_decide_eq_true e
                omega
              · exact ⟨_, _, _, rfl, (sm3.trans sm4).trans B5.same, fs_miss hf2 hbs hpk⟩
            | cons l r =>
              rw [hfl] at T5 hhead
              have hy0 : ys5.length = r.length + 1 := T5.length
              have hpk : pick t o (cuts t.length i) bs = some (bs, l) := by
                unfold pick
                rw [← hhead]
                rfl
              have hans : lawF sg t o = some (bs, l) := by
                rw [ef]
                exact rs_hit hf hi (fs_hit hf2 hbs hpk)
              refine ite2 (fun _ => ?_) (fun e => ?_)
              · obtain ⟨q0, hq0⟩ : ∃ q0, ys5[0]? = some (.ref q0) ∧ H5 q0 = some (.tup (l.map V.int)) := by
                  cases T5 with
                  | cons a b => exact ⟨_, rfl, a⟩
                refine ⟨_, rfl, _, rfl, fd, _, _, _, rfl, rfl, SqL.of hy5, at_of (j := 0) (by omega) hq0.1, line_ge (by show 2 ≤ 16777216; decide), fun p np => ?_⟩
                have sm5 : Same H (upd H5 p (.tup [.ref x, .ref q0])) := (((((sm.trans B.same).trans sm3).trans sm4).trans B5.same).trans (same_new np))
                refine q2 a8 b8 _ _ sm5 ?_
                rw [hans]
                have sm6 : Same H5 (upd H5 p (.tup [.ref x, .ref q0])) := same_new np
                exact ⟨p, x, q0, rfl, upd_same, ⟨dx, q, sm6 _ _ (B5.same _ _ hx4), sm6 _ _ (B5.same _ _ hq5)⟩, sm6 _ _ hq0.2⟩
              · exact absurd (decide_eq_true (by omega)) e
          · rintro σ H3 ⟨v4, v5, v6, rfl, sm3, hf2⟩
            rw [TX.length, List.take_length] at hf2
            exact ⟨_, _, _, _, rfl, (sm.trans B.same).trans sm3, rs_miss hf hf2⟩
        · rintro σ H1 ⟨v3, v4, v5, v6, rfl, sm, hf⟩
          rw [eN] at hf
          refine q2 a8 b8 _ _ sm ?_
          rw [ef, hf]
          rfl
end
end TW

set_option Elab.async false
set_option linter.all false
set_option maxRecDepth 100000
set_option maxHeartbeats 4000000
namespace TW
open PySem PySem.Spec PyProof.Rows L2
section
variable {P : Program} {w : World} {K : PySem.W.Frag} {mg : Str → Option Value} {base : Heap} {C CL fI cc cda : Addr}
/-! ### isinstance -/
theorem kit_same (K : PySem.W.Frag) (n : String) : PySem.W.kitOne K (.type n) (.type n) = some true := by
  unfold PySem.W.kitOne
  rw [if_pos (by simp)]
theorem kit_int_tuple (K : PySem.W.Frag) : PySem.W.kitOne K (.type "int") (.type "tuple") = some false := by first | rfl | kernel_rfl
theorem kit_int_list (K : PySem.W.Frag) : PySem.W.kitOne K (.type "int") (.type "list") = some false := by first | rfl | kernel_rfl
theorem kit_int_dict (K : PySem.W.Frag) : PySem.W.kitOne K (.type "int") (.type "dict") = some false := by first | rfl | kernel_rfl
theorem kit_int_bool (K : PySem.W.Frag) : PySem.W.kitOne K (.type "int") (.type "bool") = some false := by first | rfl | kernel_rfl
theorem kit_tuple_list (K : PySem.W.Frag) : PySem.W.kitOne K (.type "tuple") (.type "list") = some false := by first | rfl | kernel_rfl
theorem boot_isi : bootBuiltins "isinstance" = some (.builtin "isinstance") := by decide +kernel
theorem boot_tuple : bootBuiltins "tuple" = some (.type "tuple") := by decide +kernel
theorem boot_list : bootBuiltins "list" = some (.type "list") := by decide +kernel
theorem boot_dict : bootBuiltins "dict" = some (.type "dict") := by decide +kernel
theorem boot_bool : bootBuiltins "bool" = some (.type "bool") := by decide +kernel
theorem boot_int : bootBuiltins "int" = some (.type "int") := by decide +kernel
theorem rd_isi {H : Hp} {x : V} {a n : String} {b : Bool} {Q : VK} (ty : TyX K H x (.type a)) (hk : PySem.W.kitOne K (.type a) (.type n) = some b) (q : Q (.bl b) H) : rIsi K [x, .ty n] H Q :=
  ⟨x, .ty n, .type a, .type n, b, rfl, .ty n, ty, hk, q⟩
theorem notN_ref (a : Addr) : decide (V.ref a = V.non) = false := decide_eq_false (by intro z; cases z)
theorem notN_int (a : Int) : decide (V.int a = V.non) = false := decide_eq_false (by intro z; cases z)
/-! ### _law_same of equal numbers, of equal tuples of numbers -/
def spSameI : Sp := fun vs H Q _ => ∃ n : Int, vs = [.int n, .int n] ∧ Q (.bl true) H
def spSameT : Sp := fun vs H Q _ => ∃ (a b : Addr) (l : List Int), vs = [.ref a, .ref b] ∧ H a = some (.tup (l.map V.int)) ∧ H b = some (.tup (l.map V.int)) ∧ l.length ≤ 100 ∧ ∀ H', Same H H' → Q (.bl true) H'
abbrev N_same : List Str := ["_law_actual", "_law_due", "_law_k", "_law_key"]
theorem sc_same : FnScope N_same ["_law_actual", "_law_due"] (defScope (topS 22)) := ⟨rfl, rfl, rfl, by decide +kernel, rfl, by decide +kernel, by decide +kernel⟩
theorem ok_sameI (A : At K mg "_law_same" (topS 22)) (T : Nm mg) : Ok P w K mg base CX0 1 "_law_same" ["_law_actual", "_law_due"] spSameI := by
  refine mk_ok A sc_same (fun _ _ _ _ _ _ us hl => match us, hl with | [_, _], _ => rfl) (fun vs H Q E h => ?_) (fun f cdv A outer s H vs Q E hr h => ?_)
  · obtain ⟨n, rfl, _⟩ := h
    rfl
  · obtain ⟨n, rfl, q⟩ := h
    refine ⟨_, pss_cons (ps_if (pt_cmp (pc_isN (pv 1))) pss_never pss_nil)
      (pss_cons (ps_if (PW.pt (pw_or (pt_val (pe_callB call_isi (by rfl) T.isinstance boot_isi (pa_cons (pv 1) (pa_cons (pe_bltn (by rfl) T.tuple boot_tuple (v := .ty "tuple") rfl) pa_nil)))) (pw_or1 (pt_val (pe_callB call_isi (by rfl) T.isinstance boot_isi (pa_cons (pv 1) (pa_cons (pe_bltn (by rfl) T.list boot_list (v := .ty "list") rfl) pa_nil))))))) pss_never pss_nil)
      (pss_cons (ps_if (pt_val (pe_callB call_isi (by rfl) T.isinstance boot_isi (pa_cons (pv 1) (pa_cons (pe_bltn (by rfl) T.dict boot_dict (v := .ty "dict") rfl) pa_nil)))) pss_never pss_nil)
      (pss_cons (ps_if (pt_val (pe_callB call_isi (by rfl) T.isinstance boot_isi (pa_cons (pv 1) (pa_cons (pe_bltn (by rfl) T.bool boot_bool (v := .ty "bool") rfl) pa_nil)))) pss_never pss_nil)
      (pss_cons (ps_if (pt_val (pe_callB call_isi (by rfl) T.isinstance boot_isi (pa_cons (pv 1) (pa_cons (pe_bltn (by rfl) T.int boot_int (v := .ty "int") rfl) pa_nil))))
        (pss_one (ps_ret (pe_and (pe_callB call_isi (by rfl) T.isinstance boot_isi (pa_cons (pv 0) (pa_cons (pe_bltn (by rfl) T.int boot_int (v := .ty "int") rfl) pa_nil)))
          (pe_and (pe_not (pe_callB call_isi (by rfl) T.isinstance boot_isi (pa_cons (pv 0) (pa_cons (pe_bltn (by rfl) T.bool boot_bool (v := .ty "bool") rfl) pa_nil))))
            (pe_one (pe_cmpR op_eq (pv 0) (pv 1) (nomark _))))))) pss_nil)
      (pss_one ps_never))))), ?_⟩
    have ty : TyX K H (V.int n) (.type "int") := .base (.int n)
    refine ⟨_, rfl, _, rfl, ?_⟩
    rw [notN_int]
    refine iteF ⟨_, rfl, _, _, _, _, _, rfl, .ty _, ty, kit_int_tuple K, _, rfl, iteF ⟨_, rfl, _, _, _, _, _, rfl, .ty _, ty, kit_int_list K, _, rfl, iteF ?_⟩⟩
    refine ⟨_, rfl, _, _, _, _, _, rfl, .ty _, ty, kit_int_dict K, _, rfl, iteF ?_⟩
    refine ⟨_, rfl, _, _, _, _, _, rfl, .ty _, ty, kit_int_bool K, _, rfl, iteF ?_⟩
    refine ⟨_, rfl, _, _, _, _, _, rfl, .ty _, ty, kit_same K "int", _, rfl, iteT ?_⟩
    refine ⟨_, rfl, _, _, _, _, _, rfl, .ty _, ty, kit_same K "int", _, rfl, iteT ?_⟩
    refine ⟨_, rfl, _, _, _, _, _, rfl, .ty _, ty, kit_int_bool K, _, rfl, _, rfl, iteT ?_⟩
    refine ⟨_, rfl, _, rfl, rfl, ?_⟩
    rw [dec_ints, decide_eq_true rfl]
    exact q
theorem ok_sameT (A : At K mg "_law_same" (topS 22)) (T : Nm mg) : Ok P w K mg base CX0 2 "_law_same" ["_law_actual", "_law_due"] spSameT := by
  obtain ⟨fS, fdS, gS, kS, bS, GS⟩ := ok_sameI (P := P) (w := w) (base := base) A T
  refine mk_ok A sc_same (fun _ _ _ _ _ _ us hl => match us, hl with | [_, _], _ => rfl) (fun vs H Q E h => ?_) (fun f cdv A outer s H vs Q E hr h => ?_)
  · obtain ⟨a, b, l, rfl, _⟩ := h
    rfl
  · obtain ⟨a, b, l, rfl, ha, hb, hl, q⟩ := h
    refine ⟨_, pss_cons (ps_if (pt_cmp (pc_isN (pv 1))) pss_never pss_nil)
      (pss_cons (ps_if (PW.pt (pw_or (pt_val (pe_callB call_isi (by rfl) T.isinstance boot_isi (pa_cons (pv 1) (pa_cons (pe_bltn (by rfl) T.tuple boot_tuple (v := .ty "tuple") rfl) pa_nil)))) (pw_or1 (pt_val (pe_callB call_isi (by rfl) T.isinstance boot_isi (pa_cons (pv 1) (pa_cons (pe_bltn (by rfl) T.list boot_list (v := .ty "list") rfl) pa_nil)))))))
        (pss_cons (ps_if (PW.pt (pw_or (PW.pt (pw_and (pt_val (pe_callB call_isi (by rfl) T.isinstance boot_isi (pa_cons (pv 1) (pa_cons (pe_bltn (by rfl) T.tuple boot_tuple (v := .ty "tuple") rfl) pa_nil)))) (pw_and1 (pt_not (pt_val (pe_callB call_isi (by rfl) T.isinstance boot_isi (pa_cons (pv 0) (pa_cons (pe_bltn (by rfl) T.tuple boot_tuple (v := .ty "tuple") rfl) pa_nil)))))))) (pw_or1 (PW.pt (pw_and (pt_val (pe_callB call_isi (by rfl) T.isinstance boot_isi (pa_cons (pv 1) (pa_cons (pe_bltn (by rfl) T.list boot_list (v := .ty "list") rfl) pa_nil)))) (pw_and1 (pt_not (pt_val (pe_callB call_isi (by rfl) T.isinstance boot_isi (pa_cons (pv 0) (pa_cons (pe_bltn (by rfl) T.list boot_list (v := .ty "list") rfl) pa_nil)))))))))))
          pss_never pss_nil)
        (pss_cons (ps_if (pt_cmpR op_ne (pe_callB call_len_seq (by rfl) T.len PySem.boot_len (pa_cons (pv 0) pa_nil)) (pe_callB call_len_seq (by rfl) T.len PySem.boot_len (pa_cons (pv 1) pa_nil)) (nomark _)) pss_never pss_nil)
        (pss_cons (ps_for PassesOwn.never rfl (pi_range1 rfl T.range (pa_cons (pe_callB call_len_seq (by rfl) T.len PySem.boot_len (pa_cons (pv 1) pa_nil)) pa_nil)) (pg_name (i := 2) sc_same.nd rfl (.inl rfl))
          (pss_one (ps_if (pt_not (pt_val (pe_call GS (hr.mono (by decide)) (by rfl) gS kS bS .nil pass0 (pa_cons (pe_ix ix_tup (pv 0) (pv 2) (fun _ _ => rfl)) (pa_cons (pe_ix ix_tup (pv 1) (pv 2) (fun _ _ => rfl)) pa_nil))))) pss_never pss_nil)))
        (pss_one (ps_ret pe_bl))))) pss_nil)
      pss_never), ?_⟩
    have tya : ∀ H', Same H H' → TyX K H' (V.ref a) (.type "tuple") := fun H' sm => .base (.tup (sm _ _ ha))
    have tyb : ∀ H', Same H H' → TyX K H' (V.ref b) (.type "tuple") := fun H' sm => .base (.tup (sm _ _ hb))
    have ty1 := tya H (Same.refl _)
    have ty2 := tyb H (Same.refl _)
    refine ⟨_, rfl, _, rfl, ?_⟩
    rw [notN_ref]
    refine iteF ⟨_, rfl, _, _, _, _, _, rfl, .ty _, ty2, kit_same K "tuple", _, rfl, iteT ?_⟩
    refine ⟨_, rfl, _, _, _, _, _, rfl, .ty _, ty2, kit_same K "tuple", _, rfl, iteT ?_⟩
    refine ⟨_, rfl, _, _, _, _, _, rfl, .ty _, ty1, kit_same K "tuple", _, rfl, iteF ?_⟩
    refine ⟨_, rfl, _, _, _, _, _, rfl, .ty _, ty2, kit_tuple_list K, _, rfl, iteF (iteF ?_)⟩
    refine ⟨_, rfl, a, _, rfl, .inr (SqT.of ha), _, rfl, b, _, rfl, .inr (SqT.of hb), rfl, _, rfl, ?_⟩
    rw [dec_ints, decide_eq_true rfl]
    refine iteF ?_
    refine ⟨_, rfl, b, _, rfl, .inr (SqT.of hb), ((l.map V.int).length : Int), rfl, by omega, by rw [List.length_map]; omega, for_range (lo := 0) (n := (((l.map V.int).length : Nat) : Int).toNat)
      (fun i σ H' => ∃ v2 v3, σ = [some (.ref a), some (.ref b), v2, v3] ∧ Same H H') ⟨none, none, rfl, Same.refl _⟩ ?_ ?_⟩
    · rintro i σ H' hi ⟨v2, v3, rfl, sm⟩
      have hil : i < l.length := by
        rw [List.length_map] at hi
        omega
      obtain ⟨n, hn⟩ : ∃ n, l[i]? = some n := ⟨_, List.getElem?_eq_getElem hil⟩
      have e0 : (0 : Int) + (i : Int) = (i : Int) := Int.zero_add _
      refine ⟨_, rfl, _, rfl, a, l.map V.int, _, .int n, rfl, rfl, SqT.of (sm _ _ ha), at_of (j := i) e0 (int_at hn), _, rfl, _, rfl, b, l.map V.int, _, .int n, rfl, rfl, SqT.of (sm _ _ hb), at_of (j := i) e0 (int_at hn), n, rfl, _, rfl, iteF ?_⟩
      exact ⟨_, _, rfl, sm⟩
    · rintro σ H' ⟨v2, v3, rfl, sm⟩
      exact q H' sm
end
end TW

set_option Elab.async false
set_option linter.all false
set_option maxRecDepth 100000
set_option maxHeartbeats 4000000
namespace TW
open PySem PySem.Spec PyProof.Rows L2
theorem fd_miss {α : Type} {p : α → Bool} {l : List α} {i : Nat} {x : α} (h : (l.take i).find? p = none) (hx : l[i]? = some x) (hf : p x = false) : (l.take (i + 1)).find? p = none := by
  rw [take_more hx, List.find?_append, h]
  simp [hf]
theorem fd_hit {α : Type} {p : α → Bool} {l : List α} {i : Nat} {x : α} (h : (l.take i).find? p = none) (hx : l[i]? = some x) (hf : p x = true) : l.find? p = some x := by
  have e : l = l.take (i + 1) ++ l.drop (i + 1) := (List.take_append_drop _ _).symm
  rw [e, take_more hx, List.find?_append, List.find?_append, h]
  simp [hf]
section
variable {P : Program} {w : World} {K : PySem.W.Frag} {mg : Str → Option Value} {base : Heap} {C CL fI cc cda : Addr}
/-! ### _law_first -/
def DueAns (H : Hp) : Option Ans → V → Prop
  | none, r => r = .non
  | some (bs, l), r => ∃ p q1 q2, r = .ref p ∧ H p = some (.tup [.ref q1, .ref q2]) ∧ H q1 = some (.tup (bs.map V.int)) ∧ H q2 = some (.tup (l.map V.int))
theorem DueAns.mono {H H' : Hp} (s : Same H H') : ∀ {a : Option Ans} {r : V}, DueAns H a r → DueAns H' a r
  | none, _, h => h
  | some (_, _), _, ⟨p, q1, q2, h1, h2, h3, h4⟩ => ⟨p, q1, q2, h1, s _ _ h2, s _ _ h3, s _ _ h4⟩
def spFirst : Sp := fun vs H Q _ => ∃ (t o : List Nat) (sg : Bool), vs = [.str (S t), .str (S o), .bl sg] ∧ t.length ≤ 8 ∧ o.length ≤ 30 ∧ OkT t ∧ OkT o ∧
  ∀ (H' : Hp) (r : V), Same H H' → DueAns H' (lawF sg t o) r → Q r H'
abbrev N_first : List Str := ["_law_text_here", "_law_other", "_law_signed", "_law_many", "_law_blocks_here", "_law_lengths"]
theorem sc_first : FnScope N_first ["_law_text_here", "_law_other", "_law_signed"] (defScope (topS 29)) := ⟨rfl, rfl, rfl, by decide +kernel, rfl, by decide +kernel, by decide +kernel⟩
theorem ok_first (A : At K mg "_law_first" (topS 29)) (T : Nm mg) (G1 : Ok P w K mg base CX0 1 "_law_orders" ["_law_many", "_law_signed"] spOrders) (G2 : Ok P w K mg base CX0 1 "_law_cuttings" ["_law_length", "_law_many"] spCuts)
    (G3 : Ok P w K mg base CX0 1 "_law_cut" ["_law_text_here", "_law_lengths"] (spCut K)) (G4 : Ok P w K mg base CX0 1 "_law_moved" ["_law_blocks_here", "_law_texts"] (spMoved K)) :
    Ok P w K mg base CX0 2 "_law_first" ["_law_text_here", "_law_other", "_law_signed"] spFirst := by
  obtain ⟨fO, fdO, gO, kO, bO, GO⟩ := G1
  obtain ⟨fC, fdC, gC, kC, bC, GC⟩ := G2
  obtain ⟨fU, fdU, gU, kU, bU, GU⟩ := G3
  obtain ⟨fM, fdM, gM, kM, bM, GM⟩ := G4
  refine mk_ok A sc_first (fun _ _ _ _ _ _ us hl => match us, hl with | [_, _, _], _ => rfl) (fun vs H Q E h => ?_) (fun f cdv A outer s H vs Q E hr h => ?_)
  · obtain ⟨t, o, sg, rfl, _⟩ := h
    rfl
  · obtain ⟨t, o, sg, rfl, a8, ho, kt, ko, q2⟩ := h
    have hso : bootBuiltins "sorted" = some (.builtin "sorted") := by decide +kernel
    refine ⟨_, pss_cons (ps_if (pt_cmpR (op_neD hr.units) (pe_callB (cr_sortedTx rfl) (by rfl) T.sorted hso (pa_cons (pv 0) pa_nil)) (pe_callB (cr_sortedTx rfl) (by rfl) T.sorted hso (pa_cons (pv 1) pa_nil)) (nomark _)) (pss_one (ps_ret pe_non)) pss_nil)
      (pss_cons (ps_for PassesOwn.never rfl (pi_range1 rfl T.range (pa_cons (pe_op op_add (pe_callB call_len_str (by rfl) T.len PySem.boot_len (pa_cons (pv 0) pa_nil)) pe_int) pa_nil)) (pg_name (i := 3) sc_first.nd rfl (.inl rfl))
        (pss_one (ps_for PassesOwn.never rfl (pi_list (pe_call GO hr (by rfl) gO kO bO .nil pass0 (pa_cons (pv 3) (pa_cons (pv 2) pa_nil)))) (pg_name (i := 4) sc_first.nd rfl (.inl rfl))
          (pss_one (ps_for PassesOwn.never rfl (pi_list (pe_call GC hr (by rfl) gC kC bC .nil pass0 (pa_cons (pe_callB call_len_str (by rfl) T.len PySem.boot_len (pa_cons (pv 0) pa_nil)) (pa_cons (pv 3) pa_nil)))) (pg_name (i := 5) sc_first.nd rfl (.inl rfl))
            (pss_one (ps_if (pt_cmpR op_eq (pe_join pe_str (pe_call GM hr (by rfl) gM kM bM .nil pass0 (pa_cons (pv 4) (pa_cons (pe_call GU hr (by rfl) gU kU bU .nil pass0 (pa_cons (pv 0) (pa_cons (pv 5) pa_nil))) pa_nil)))) (pv 1) (nomark _))
              (pss_one (ps_ret (pe_tup (pa_cons (pv 4) (pa_cons (pv 5) pa_nil))))) pss_nil)))))))
      (pss_one (ps_ret pe_non))), ?_⟩
    have z1 : ∀ (l : List Nat), l.length ≤ 30 → (S l).length ≤ sizeLine := fun l h => by
      rw [S_len]
      exact line_ge (by omega)
    have ht : t.length ≤ 30 := by omega
    refine ⟨_, rfl, S t, rfl, by rw [S_len]; omega, fun ys p1 r1 r2 n1 => ?_⟩
    refine ⟨_, rfl, S o, rfl, by rw [S_len]; omega, fun zs p2 r3 r4 n2 => ?_⟩
    have hp12 : p1 ≠ p2 := ne_of_none upd_same n2
    have hP : SqL K (upd (upd H p1 (.lst (ys.map V.str))) p2 (.lst (zs.map V.str))) p1 (ys.map V.str) := SqL.of (by rw [upd_ne hp12]; exact upd_same)
    have hR : SqL K (upd (upd H p1 (.lst (ys.map V.str))) p2 (.lst (zs.map V.str))) p2 (zs.map V.str) := SqL.of upd_same
    refine ⟨.list (ys.map PyData.str), .list (zs.map PyData.str), .lst hP (dp_strs _), .lst hR (dp_strs _), shaped_strs (ok_sgs r1 kt), shaped_strs (ok_sgs r3 ko), _, rfl, ?_⟩
    have e5 : PyData.eqv (.list (ys.map PyData.str)) (.list (zs.map PyData.str)) = decide (t.Perm o) := by
      show PyData.eqvAll _ _ = _
      rw [eqv_strs]
      exact decide_eq_decide.mpr (sorted_iff r1 r2 r3 r4)
    rw [e5]
    have s2 : Same H (upd (upd H p1 (.lst (ys.map V.str))) p2 (.lst (zs.map V.str))) := (same_new n1).trans (same_new n2)
    by_cases hp : t.Perm o
    case neg =>
      rw [decide_eq_false hp]
      refine iteT ?_
      refine q2 _ _ s2 ?_
      unfold lawF
      rw [if_neg hp]
      rfl
    case pos =>
      rw [decide_eq_true hp]
      refine iteF ?_
      have hlen : t.length = o.length := hp.length_eq
      have ef : lawF sg t o = (List.range (t.length + 1)).findSome? fun m => firstO t o (cuts t.length m) (ordL m sg m) := by
        unfold lawF
        rw [if_pos hp]
        rfl
      have eN : (((S t).length : Int) + 1).toNat = t.length + 1 := by
        rw [S_len]
        omega
      refine ⟨_, rfl, _, rfl, z1 t ht, _, _, rfl, rfl, ((S t).length : Int) + 1, rfl, by omega, by rw [S_len]; omega, for_range (lo := 0) (n := (((S t).length : Int) + 1).toNat)
        (fun i σ H' => ∃ v3 v4 v5, σ = [some (.str (S t)), some (.str (S o)), some (.bl sg), v3, v4, v5] ∧ Same H H' ∧ ((List.range i).findSome? fun m => firstO t o (cuts t.length m) (ordL m sg m)) = none)
        ⟨none, none, none, rfl, s2, rfl⟩ ?_ ?_⟩
      · rintro i σ H1 hi ⟨v3, v4, v5, rfl, sm, hf⟩
        rw [eN] at hi
        refine ⟨_, rfl, _, rfl, i, sg, by show [V.int ((0 : Int) + (i : Int)), V.bl sg] = _; rw [Int.zero_add], by omega, fun H2 fo B => ?_⟩
        obtain ⟨xs, hfo, TX⟩ := B.ex
        refine ⟨fo, rfl, ⟨_, SqL.of hfo⟩, for_list (K := K) (a := fo) (xs := xs)
          (fun j σ H' => ∃ v4 v5, σ = [some (.str (S t)), some (.str (S o)), some (.bl sg), some (.int ((0 : Int) + (i : Int))), v4, v5] ∧ Same H2 H' ∧ ((ordL i sg i).take j).findSome? (pick t o (cuts t.length i)) = none)
          ⟨_, _, rfl, Same.refl _, rfl⟩ (fun j σ H' _ ⟨_, _, _, sm2, _⟩ => SqL.of (sm2 _ _ hfo)) ?_ ?_⟩
        · rintro j v σ H3 hv ⟨v4, v5, rfl, sm3, hf2⟩
          obtain ⟨q, bs, rfl, hbs, hq⟩ := TX.get hv
          have hq3 := sm3 _ _ hq
          have hPB : PermB i bs := permB_of (List.mem_of_getElem? hbs)
          have hbl := hPB.len
          refine ⟨_, rfl, _, rfl, z1 t ht, _, rfl, t.length, i, by show [V.int ((S t).length : Int), V.int ((0 : Int) + (i : Int))] = _; rw [Int.zero_add, S_len], a8, by omega, fun H4 fc BC => ?_⟩
          obtain ⟨ls, hfc, TL⟩ := BC.ex
          have hq4 := BC.same _ _ hq3
          refine ⟨fc, rfl, ⟨_, SqL.of hfc⟩, for_list (K := K) (a := fc) (xs := ls)
            (fun k σ H' => ∃ v5, σ = [some (.str (S t)), some (.str (S o)), some (.bl sg), some (.int ((0 : Int) + (i : Int))), some (.ref q), v5] ∧ Same H4 H' ∧ ((cuts t.length i).take k).find? (hit t o bs) = none)
            ⟨_, rfl, Same.refl _, rfl⟩ (fun j σ H' _ ⟨_, _, sm2, _⟩ => SqL.of (sm2 _ _ hfc)) ?_ ?_⟩
          · rintro k v σ H5 hv5 ⟨v5, rfl, sm5, hf5⟩
            obtain ⟨q5, l, rfl, hl, hq5⟩ := TL.get hv5
            obtain ⟨l1, l2, l3⟩ := mem_cuts.mp (List.mem_of_getElem? hl)
            have hq6 := sm5 _ _ hq5
            refine ⟨⟨_, rfl⟩, _, rfl, _, rfl, _, rfl, q5, t, l, rfl, SqT.of hq6, fun y hy => by have := l2 y hy; omega, by omega, ht, fun H6 p6 sm6 np6 hp6 => ?_⟩
            have hfit : Fits bs (pieces t 0 l) := hPB.fits (by rw [pieces_len]; exact l1)
            refine ⟨q, p6, bs, pieces t 0 l, rfl, SqT.of (sm6 _ _ (sm5 _ _ hq4)), SqL.of hp6, hfit, by omega, pieces_le ht l 0, fun H7 p7 sm7 np7 hp7 => ?_⟩
            refine ⟨_, p7, _, rfl, rfl, .inl (SqL.of hp7), ?_, ?_⟩
            · have h1 := flat_len (bs := bs) (ps := pieces t 0 l) (by omega) (pieces_le ht l 0)
              show _ + _ * 0 ≤ 16777216
              omega
            · rw [join_S]
              refine ⟨_, rfl, rfl, ?_⟩
              have e1 : decide (V.str (S (moved bs (pieces t 0 l)).flatten) = V.str (S o)) = hit t o bs l := dec_S _ _
              rw [e1]
              have sm9 : Same H4 H7 := (sm5.trans sm6).trans sm7
              by_cases c : hit t o bs l = true
              · rw [c]
                refine ⟨_, rfl, iteT ?_⟩
                refine ⟨_, rfl, _, rfl, line_ge (by show 2 ≤ 16777216; decide), fun p np => ?_⟩
                have sm10 : Same H7 (upd H7 p (.tup [.ref q, .ref q5])) := same_new np
                refine q2 _ _ (((((sm.trans B.same).trans sm3).trans BC.same).trans sm9).trans sm10) ?_
                have hpk : pick t o (cuts t.length i) bs = some (bs, l) := by
                  unfold pick
                  rw [fd_hit hf5 hl c]
                  rfl
                have hans : lawF sg t o = some (bs, l) := by
                  rw [ef]
                  exact rs_hit hf hi (fs_hit hf2 hbs hpk)
                rw [hans]
                exact ⟨p, q, q5, rfl, upd_same, sm10 _ _ (sm9 _ _ hq4), sm10 _ _ (sm7 _ _ (sm6 _ _ hq6))⟩
              · rw [Bool.not_eq_true] at c
                rw [c]
                refine ⟨_, rfl, iteF ?_⟩
                exact ⟨_, rfl, sm9, fd_miss hf5 hl c⟩
          · rintro σ H5 ⟨v5, rfl, sm5, hf5⟩
            rw [TL.length, List.take_length] at hf5
            have hpk : pick t o (cuts t.length i) bs = none := by
              unfold pick
              rw [hf5]
              rfl
            exact ⟨_, _, rfl, (sm3.trans BC.same).trans sm5, fs_miss hf2 hbs hpk⟩
        · rintro σ H3 ⟨v4, v5, rfl, sm3, hf2⟩
          rw [TX.length, List.take_length] at hf2
          exact ⟨_, _, _, rfl, (sm.trans B.same).trans sm3, rs_miss hf hf2⟩
      · rintro σ H1 ⟨v3, v4, v5, rfl, sm, hf⟩
        rw [eN] at hf
        refine q2 _ _ sm ?_
        rw [ef, hf]
        rfl
end
end TW

set_option Elab.async false
set_option linter.all false
set_option maxRecDepth 100000
set_option maxHeartbeats 4000000
namespace TW
open PySem PySem.Spec PyProof.Rows L2
/-! ### a call with keywords whose way out hangs on the slots -/
def tCallNS (n m : Nat) (sp : Sp) (gV : List V → List V → List V) (E : L2.St → XK) (t tk : TA) : TE := fun σ H Q => t σ H fun vs H1 => tk σ H1 fun zs H2 => vs.length = n ∧ zs.length = m ∧ sp (gV vs zs) H2 Q (E σ)
section
variable {X : Cx} {CX : CXT} {k n : Nat} {f : Addr} {fd : FuncData} {ps ks : List Str} {sp : Sp} {E : L2.St → XK} {x : Str} {p pos : Pos} {e : Expr} {es : List Expr} {kws : List Keyword} {t tk : TA} {g : List Value → List Value → List Value} {gV : List V → List V → List V}
theorem run_fnNS {pins : List (Addr × Obj)} {σ : L2.St} {H : Hp} {s : Shared} {Q : VK} {us ws : List Value} {vs zs : List V} (F : FnOk X.prog X.w X.K X.mg X.base CX k f fd ps sp) (hr : Room k X.A) (hb : KBn X.K fd ps n ks g gV) (hx : PassesAt CX X σ (E σ))
    (I : Inv X pins σ H s) (r : Vals vs us) (rz : Vals zs ws) (l1 : vs.length = n) (l2 : zs.length = ks.length) (h : sp (gV vs zs) H Q (E σ)) : wpAny (model X.prog X.w) X.A (call (.ref f) us (ks.zip ws)) (EP X pins σ Q) X.xe s := by
  have r2 := hb.rel r rz
  refine wpAny_call (codeAny_mono (F.run X.A X.stack s H ⟨us, ks.zip ws⟩ (g us ws) (gV vs zs) Q (E σ) hr I.env0 (hb.to s us ws I.kIn (r.length.symm.trans l1) (rz.length.symm.trans l2)) r2 h) fun r s' hq => ?_)
  cases r with
  | error e => exact hx pins H s e s' I hq
  | ok fl =>
    cases fl with
    | ret u => exact I.after hq
    | next => exact False.elim hq
    | brk => exact False.elim hq
    | cont => exact False.elim hq
theorem pe_callNS (F : FnOk X.prog X.w X.K X.mg X.base CX k f fd ps sp) (hr : Room k X.A) (hg : Gl X x) (hm : X.mg x = some (.ref f)) (hk : PySem.W.keepIn X.K (.ref f) = true) (hb : KBn X.K fd ps n ks g gV) (hx : ∀ σ, PassesAt CX X σ (E σ))
    (ha : PA X (e :: es) t) (hkw : PK X kws tk) (hall : (backToKw pos (keywordEach kws X.env)).all (·.1.isSome) = true := by rfl) (hks : (backToKw pos (keywordEach kws X.env)).filterMap (·.1) = ks := by rfl)
    (hdb : (x == ("__debug__" : Str)) = false := by decide) (he : starEach (e :: es) X.env = (false, eval e X.env) :: starEach es X.env := by rfl)
    (hpl : ((backTo pos (starEach (e :: es) X.env)).any (·.1) || (backToKw pos (keywordEach kws X.env)).any (·.1.isNone)) = false := by rfl) :
    PE X (.Call (.Name x p) (e :: es) kws pos) (tCallNS n ks.length sp gV E t tk) := by
  refine ⟨fun pins s σ H Q I h => ?_⟩
  refine wpAny_Call_Name_kw (ld_glob I hg hm ?_ hdb)
  refine PySem.W.callWith_KW (h₀ := X.base) I.ok.mod.kin hk hall (thn (ha.run pos pins s σ H _ I h) fun us s1 ⟨vs, H1, I1, r, q⟩ => ?_) hpl he
  refine thn (hkw.run pos pins s1 σ H1 _ I1 q) fun ws s2 ⟨zs, H2, I2, rz, l1, l2, q2⟩ => ⟨I2.kIn, ?_⟩
  rw [hks]
  exact run_fnNS F hr hb (hx σ) I2 r rz l1 l2 q2
end
section
variable {P : Program} {w : World} {K : PySem.W.Frag} {mg : Str → Option Value} {base : Heap} {C CL BB BX fI cc cda : Addr}
/-- what the written part says of the error's class and its bases -/
structure ErrT (K : PySem.W.Frag) (mg : Str → Option Value) (CL BB BX : Addr) : Prop where
  gB : mg "BadBook" = some (.ref BB)
  gX : mg "BadExchange" = some (.ref BX)
  dC : ExcD K CL
  kB : PySem.W.kitOne K (.ref CL) (.ref BB) = some true
  kX : PySem.W.kitOne K (.ref CL) (.ref BX) = some false
/-! ### _law_told -/
def wayB (k : Int) : Bool := if k = 0 then false else if k = 1 then false else true
def spTold (C : Addr) : Sp := fun vs H Q _ => ∃ (k : Int) (t o : List Nat), vs = [.int k, .str (S t), .str (S o)] ∧ t.length ≤ 30 ∧ o.length ≤ 30 ∧ OkT t ∧ OkT o ∧
  (8 < t.length ∨ 8 < o.length → ∀ (H' : Hp) (p : Addr) (r : V), r = .ref p → Same H H' → H' p = some (.tup [.str "letters", .int 8, .bl true]) → Q r H') ∧
  (t.length ≤ 8 → o.length ≤ 8 → ∀ (H' : Hp) (r : V), Same H H' → FewAns C H' (lawF (wayB k) t o) r → Q r H')
abbrev N_told : List Str := ["_law_way", "_law_text_here", "_law_other", "_law_found", "e"]
theorem sc_told : FnScope N_told ["_law_way", "_law_text_here", "_law_other"] (defScope (topS 30)) := ⟨rfl, rfl, rfl, by decide +kernel, rfl, by decide +kernel, by decide +kernel⟩
def bodyT (C CL : Addr) (W : WX) : TS := tIfS (tTest (tOp rEq (tVar 0) (tC (.int 0)))) (tAsg (tCallSD (spFew C CL) [.bl false] (WE W) (tCons (tVar 1) (tCons (tVar 2) tNil))) (gName 3))
  (tIfS (tTest (tOp rEq (tVar 0) (tC (.int 1)))) (tAsg (tCallNS 2 1 (spFew C CL) (fun vs zs => vs ++ zs) (WE W) (tCons (tVar 1) (tCons (tVar 2) tNil)) (tCons (tC (.bl false)) tNil)) (gName 3))
    (tAsg (tCallNS 2 1 (spFew C CL) (fun vs zs => vs ++ zs) (WE W) (tCons (tVar 1) (tCons (tVar 2) tNil)) (tCons (tC (.bl true)) tNil)) (gName 3)))
def suiteT (K : PySem.W.Frag) (CL BB BX : Addr) : Addr → Value → Option Addr → TS := fun a cls d =>
  tRet (tTup (tCons (tXf a cls d CL "what" (tVar 4)) (tCons (tXf a cls d CL "limit" (tVar 4)) (tCons (tAndV (tCB (rIsD K CL a cls d) (tCons (tVar 4) (tCons (tC (.ref BB)) tNil))) (tNotV (tCB (rIsD K CL a cls d) (tCons (tVar 4) (tCons (tC (.ref BX)) tNil))))) tNil))))
theorem ok_told (A : At K mg "_law_told" (topS 30)) (TL : PySem.LargeX.LargeTxt P K mg CL fI cc cda) (ET : ErrT K mg CL BB BX) (T : Nm mg) (G : OkD P w K mg base (L2.CX P w) 4 "fewest" "turned" ["text", "other", "turned"] 2 (spFew C CL)) :
    Ok P w K mg base CX0 5 "_law_told" ["_law_way", "_law_text_here", "_law_other"] (spTold C) := by
  obtain ⟨fF, fdF, gF, kF, bK, ⟨ds, hds, bD⟩, GF⟩ := G
  have XF : XfC K CL := ⟨TL.ga, TL.gg, TL.exC, TL.hdC⟩
  refine mk_ok A sc_told (fun _ _ _ _ _ _ us hl => match us, hl with | [_, _, _], _ => rfl) (fun vs H Q E h => ?_) (fun f cdv A outer s H vs Q E hr h => ?_)
  · obtain ⟨k, t, o, rfl, _⟩ := h
    rfl
  · obtain ⟨k, t, o, rfl, ht, ho, kt, ko, q1, q2⟩ := h
    refine ⟨_, pss_cons (ps_try_as (i := 4) (tb := bodyT C CL) (ts := suiteT K CL BB BX) (Wout := fun _ _ _ _ => False) rfl rfl sc_told.nd rfl rfl ⟨rfl, by decide, Or.inl TL.gC⟩ takes0
        (fun W pn xe tk _ => pss_one (ps_if (pt_cmpR op_eq (pv 0) pe_int (nomark _)) (pss_one (ps_set (i := 3) sc_told.nd rfl (.inl rfl) (pe_callSD GF hr (by rfl) gF kF bD hds (fun σ => passAt tk σ) (pa_cons (pv 1) (pa_cons (pv 2) pa_nil)))))
          (pss_one (ps_if (pt_cmpR op_eq (pv 0) pe_int (nomark _)) (pss_one (ps_set (i := 3) sc_told.nd rfl (.inl rfl) (pe_callNS GF hr (by rfl) gF kF bK (fun σ => passAt tk σ) (pa_cons (pv 1) (pa_cons (pv 2) pa_nil)) (pk_cons pe_bl pk_nil))))
            (pss_one (ps_set (i := 3) sc_told.nd rfl (.inl rfl) (pe_callNS GF hr (by rfl) gF kF bK (fun σ => passAt tk σ) (pa_cons (pv 1) (pa_cons (pv 2) pa_nil)) (pk_cons pe_bl pk_nil))))))))
        (fun a oe cls d pn hz hf => pss_one (ps_ret (pe_tup (pa_cons (pe_xf XF TL.noW hz hf (pv 4)) (pa_cons (pe_xf XF TL.noL hz hf (pv 4)) (pa_cons
          (pe_and (pe_callB (call_isD ET.dC hz hf) (by rfl) T.isinstance boot_isi (pa_cons (pv 4) (pa_cons (pe_glob (by rfl) ET.gB (v := .ref BB) rfl) pa_nil)))
            (pe_one (pe_not (pe_callB (call_isD ET.dC hz hf) (by rfl) T.isinstance boot_isi (pa_cons (pv 4) (pa_cons (pe_glob (by rfl) ET.gX (v := .ref BX) rfl) pa_nil)))))) pa_nil)))))))
      (pss_one (ps_ret (pv 3))), ?_⟩
    have key : ∀ (sg : Bool) (Q' : VK) (E' : XK), sg = wayB k → (∀ r H', Same H H' → t.length ≤ 8 → o.length ≤ 8 → FewAns C H' (lawF (wayB k) t o) r → Q' r H') → ((8 < t.length ∨ 8 < o.length) → ∀ d, H d = none → E' (.ref CL) (some d) (upd H d hoL)) →
        spFew C CL [.str (S t), .str (S o), .bl sg] H Q' E' := fun sg Q' E' e h1 h2 => ⟨t, o, sg, rfl, ht, ho, kt, ko, h2, fun a b H' r sm an => h1 r H' sm a b (e ▸ an)⟩
    have suite : ∀ (D : Ends), D.rt = Q → (8 < t.length ∨ 8 < o.length) → ∀ d, H d = none → wAs K (.ref CL) 4 (suiteT K CL BB BX) (fun _ _ _ _ => False) D (.ref CL) (some d) (L2.start N_told [.int k, .str (S t), .str (S o)]) (upd H d hoL) := by
      intro D hD c d hd
      refine ⟨true, TL.te, fun _ a na => ?_, fun q => Bool.noConfusion q⟩
      have lk1 : ([(("limit" : Str), V.int 8), (("what" : Str), V.str "letters")] : List (Str × V)).lookup ("what" : Str) = some (V.str "letters") := by
        have : (("what" : Str) == "limit") = false := by decide +kernel
        simp [List.lookup, this]
      have lk2 : ([(("limit" : Str), V.int 8), (("what" : Str), V.str "letters")] : List (Str × V)).lookup ("limit" : Str) = some (V.int 8) := by simp [List.lookup]
      refine ⟨_, rfl, rfl, rfl, d, _, _, rfl, upd_same, lk1, ?_⟩
      refine ⟨_, rfl, rfl, rfl, d, _, _, rfl, upd_same, lk2, ?_⟩
      refine ⟨_, rfl, _, _, true, d, _, rfl, rfl, rfl, upd_same, fun u r => r, ET.kB, _, rfl, iteT ?_⟩
      refine ⟨_, rfl, _, _, false, d, _, rfl, rfl, rfl, upd_same, fun u r => r, ET.kX, _, rfl, ?_⟩
      refine ⟨line_ge (by show 3 ≤ 16777216; decide), fun p np => ?_⟩
      show D.rt _ _
      rw [hD]
      exact q1 c _ p _ rfl ((same_new hd).trans (same_new np)) upd_same
    refine ⟨_, rfl, rfl, _, rfl, ite2 (fun e => ?_) (fun e => ?_)⟩
    · have e' : k = 0 := of_decide_eq_true ((dec_ints k 0).symm.trans e)
      exact ⟨_, rfl, _, rfl, key false _ _ (by unfold wayB; rw [if_pos e']) (fun r H' sm a b an => ⟨_, rfl, q2 a b H' r sm an⟩) (suite _ rfl)⟩
    · have e' : ¬ k = 0 := fun z => e ((dec_ints k 0).trans (decide_eq_true z))
      refine ⟨_, rfl, rfl, _, rfl, ite2 (fun e2 => ?_) (fun e2 => ?_)⟩
      · have e3 : k = 1 := of_decide_eq_true ((dec_ints k 1).symm.trans e2)
        exact ⟨_, rfl, _, rfl, rfl, rfl, key false _ _ (by unfold wayB; rw [if_neg e', if_pos e3]) (fun r H' sm a b an => ⟨_, rfl, q2 a b H' r sm an⟩) (suite _ rfl)⟩
      · have e3 : ¬ k = 1 := fun z => e2 ((dec_ints k 1).trans (decide_eq_true z))
        exact ⟨_, rfl, _, rfl, rfl, rfl, key true _ _ (by unfold wayB; rw [if_neg e', if_neg e3]) (fun r H' sm a b an => ⟨_, rfl, q2 a b H' r sm an⟩) (suite _ rfl)⟩
end
end TW

set_option Elab.async false
set_option linter.all false
set_option maxRecDepth 100000
set_option maxHeartbeats 4000000
namespace TW
open PySem PySem.Spec PyProof.Rows L2
theorem lawF_small {s : Bool} {t o : List Nat} {bs l : List Int} (h : lawF s t o = some (bs, l)) (ht : t.length ≤ 8) : bs.length ≤ 100 ∧ l.length ≤ 100 := by
  unfold lawF at h
  split at h
  · unfold firstL at h
    obtain ⟨m, hm, h⟩ := List.exists_of_findSome?_eq_some h
    unfold firstO at h
    obtain ⟨b, hb, h⟩ := List.exists_of_findSome?_eq_some h
    unfold pick at h
    rw [Option.map_eq_some_iff] at h
    obtain ⟨k, hk, e⟩ := h
    cases e
    have h1 := (mem_ordL.mp hb).1
    have h2 := (mem_cuts.mp (List.mem_of_find?_eq_some hk)).1
    rw [List.mem_range] at hm
    omega
  · cases h
/-- what isinstance asks of Exchange -/
structure IsT (K : PySem.W.Frag) (C : Addr) : Prop where
  ha : PySem.W.findIn K (.ref C) "__class__" = some (some (.builtin "object.__class__"))
  hn : PySem.W.specialIn K (.builtin "object.__class__") "__get__" = some (some (.builtin "getset_descriptor.__get__"))
  ht : PySem.W.takesIn K (.builtin "object.__class__") = some true
  hm : PySem.W.mroIn K C (.type "object") = some true
theorem kit_own (K : PySem.W.Frag) (C : Addr) : PySem.W.kitOne K (.ref C) (.ref C) = some true := by
  unfold PySem.W.kitOne
  rw [if_pos (by simp)]
section
variable {P : Program} {w : World} {K : PySem.W.Frag} {mg : Str → Option Value} {base : Heap} {C CL : Addr}
/-! ### _law_right -/
theorem FewAns.mono {H H' : Hp} (s : Same H H') : ∀ {a : Option Ans} {r : V}, FewAns C H a r → FewAns C H' a r
  | none, _, h => h
  | some (_, _), _, ⟨p, x, q, h1, h2, h3, h4⟩ => ⟨p, x, q, h1, s _ _ h2, h3.mono s, s _ _ h4⟩
def spRight (C : Addr) : Sp := fun vs H Q _ => ∃ (r1 r2 : V) (a : Option Ans), vs = [r1, r2] ∧ FewAns C H a r1 ∧ DueAns H a r2 ∧ (∀ bs l, a = some (bs, l) → bs.length ≤ 100 ∧ l.length ≤ 100) ∧ ∀ H', Same H H' → Q (.bl true) H'
theorem sc_right : FnScope ["_law_found", "_law_due"] ["_law_found", "_law_due"] (defScope (topS 31)) := ⟨rfl, rfl, rfl, by decide +kernel, rfl, by decide +kernel, by decide +kernel⟩
theorem ok_right (A : At K mg "_law_right" (topS 31)) (X : ExT K mg C) (I : IsT K C) (T : Nm mg) (G : Ok P w K mg base CX0 2 "_law_same" ["_law_actual", "_law_due"] spSameT) : Ok P w K mg base CX0 3 "_law_right" ["_law_found", "_law_due"] (spRight C) := by
  obtain ⟨fS, fdS, gS, kS, bS, GS⟩ := G
  refine mk_ok A sc_right (fun _ _ _ _ _ _ us hl => match us, hl with | [_, _], _ => rfl) (fun vs H Q E h => ?_) (fun f cdv A outer s H vs Q E hr h => ?_)
  · obtain ⟨r1, r2, a, rfl, _⟩ := h
    rfl
  · obtain ⟨r1, r2, a, rfl, hF, hD, hz, q⟩ := h
    refine ⟨_, pss_cons (ps_if (pt_cmp (pc_isN (pv 1))) (pss_one (ps_ret (pe_cmp (pc_isN (pv 0))))) pss_nil)
      (pss_cons (ps_if (PW.pt (pw_or (pt_not (pt_val (pe_callB call_isi (by rfl) T.isinstance boot_isi (pa_cons (pv 0) (pa_cons (pe_bltn (by rfl) T.tuple boot_tuple (v := .ty "tuple") rfl) pa_nil)))))
          (pw_or (pt_cmpR op_ne (pe_callB call_len_seq (by rfl) T.len PySem.boot_len (pa_cons (pv 0) pa_nil)) pe_int (nomark _))
          (pw_or1 (pt_not (pt_val (pe_callB call_isi (by rfl) T.isinstance boot_isi (pa_cons (pe_ix ix_tup (pv 0) pe_int (fun _ _ => rfl)) (pa_cons (pe_glob (by rfl) X.gC (v := .ref C) rfl) pa_nil))))))))) pss_never pss_nil)
      (pss_one (ps_ret (pe_and (pe_call GS hr (by rfl) gS kS bS .nil pass0 (pa_cons (pe_fld (pe_ix ix_tup (pv 0) pe_int (fun _ _ => rfl)) rfl) (pa_cons (pe_ix ix_tup (pv 1) pe_int (fun _ _ => rfl)) pa_nil)))
        (pe_one (pe_call GS hr (by rfl) gS kS bS .nil pass0 (pa_cons (pe_ix ix_tup (pv 0) pe_int (fun _ _ => rfl)) (pa_cons (pe_ix ix_tup (pv 1) pe_int (fun _ _ => rfl)) pa_nil)))))))), ?_⟩
    cases a with
    | none =>
      cases hF
      cases hD
      refine ⟨_, rfl, _, rfl, ?_⟩
      rw [decide_eq_true rfl]
      refine iteT ⟨_, rfl, ?_⟩
      show Q (V.bl (decide (V.non = V.non))) H
      rw [decide_eq_true rfl]
      exact q H (Same.refl _)
    | some a =>
      obtain ⟨bs, l⟩ := a
      obtain ⟨p, x, u, rfl, hp, ⟨dx, tb, hx, htb⟩, hu⟩ := hF
      obtain ⟨p', q1, q2, rfl, hp', hq1, hq2⟩ := hD
      obtain ⟨z1, z2⟩ := hz bs l rfl
      have ty1 : TyX K H (V.ref p) (.type "tuple") := .base (.tup hp)
      have ty2 : TyX K H (V.ref x) (.ref C) := .base (.ins hx X.cl I.ha I.hn I.ht I.hm)
      have lk : ([("blocks", V.ref tb)] : List (Str × V)).lookup ("blocks" : Str) = some (V.ref tb) := by simp [List.lookup]
      refine ⟨_, rfl, _, rfl, ?_⟩
      rw [notN_ref]
      refine iteF ⟨_, rfl, _, _, _, _, _, rfl, .ty _, ty1, kit_same K "tuple", _, rfl, iteF ?_⟩
      refine ⟨_, rfl, p, _, rfl, .inr (SqT.of hp), rfl, _, rfl, ?_⟩
      rw [dec_ints, decide_eq_true (show (([V.ref x, V.ref u] : List V).length : Int) = 2 from rfl)]
      refine iteF ?_
      refine ⟨_, rfl, p, _, _, _, rfl, rfl, SqT.of hp, rfl, _, _, _, _, _, rfl, .own C, ty2, kit_own K C, _, rfl, iteF ?_⟩
      refine ⟨_, rfl, p, _, _, _, rfl, rfl, SqT.of hp, rfl, x, C, dx, _, _, rfl, hx, X.cl, X.nB, lk, _, rfl, p', _, _, _, rfl, rfl, SqT.of hp', rfl, ?_⟩
      refine ⟨tb, q1, bs, rfl, htb, hq1, z1, fun H1 sm1 => ⟨_, rfl, iteT ?_⟩⟩
      refine ⟨_, rfl, p, _, _, _, rfl, rfl, SqT.of (sm1 _ _ hp), rfl, _, rfl, p', _, _, _, rfl, rfl, SqT.of (sm1 _ _ hp'), rfl, ?_⟩
      exact ⟨u, q2, l, rfl, sm1 _ _ hu, sm1 _ _ hq2, z2, fun H2 sm2 => q H2 (sm1.trans sm2)⟩
/-! ### _law_good_answers -/
def spGood : Sp := fun vs H Q _ => ∃ (t o : List Nat) (sg : Bool), vs = [.str (S t), .str (S o), .bl sg] ∧ t.length ≤ 8 ∧ o.length ≤ 8 ∧ OkT t ∧ OkT o ∧ ∀ H', Same H H' → Q (.bl true) H'
abbrev N_good : List Str := ["_law_text_here", "_law_other", "_law_signed", "_law_due"]
theorem sc_good : FnScope N_good ["_law_text_here", "_law_other", "_law_signed"] (defScope (topS 32)) := ⟨rfl, rfl, rfl, by decide +kernel, rfl, by decide +kernel, by decide +kernel⟩
theorem ok_good (A : At K mg "_law_good_answers" (topS 32)) (T : Nm mg) (G1 : Ok P w K mg base CX0 2 "_law_first" ["_law_text_here", "_law_other", "_law_signed"] spFirst) (G2 : Ok P w K mg base CX0 5 "_law_told" ["_law_way", "_law_text_here", "_law_other"] (spTold C))
    (G3 : Ok P w K mg base CX0 3 "_law_right" ["_law_found", "_law_due"] (spRight C)) : Ok P w K mg base CX0 6 "_law_good_answers" ["_law_text_here", "_law_other", "_law_signed"] spGood := by
  obtain ⟨fF, fdF, gF, kF, bF, GF⟩ := G1
  obtain ⟨fT, fdT, gT, kT, bT, GT⟩ := G2
  obtain ⟨fR, fdR, gR, kR, bR, GR⟩ := G3
  refine mk_ok A sc_good (fun _ _ _ _ _ _ us hl => match us, hl with | [_, _, _], _ => rfl) (fun vs H Q E h => ?_) (fun f cdv A outer s H vs Q E hr h => ?_)
  · obtain ⟨t, o, sg, rfl, _⟩ := h
    rfl
  · obtain ⟨t, o, sg, rfl, ht, ho, kt, ko, q⟩ := h
    have hr2 : Room 2 (A.deeper (envOfC "_law_good_answers" (defScope (topS 32)) s.heap.objs.size f cdv)) := hr.mono (by decide)
    have hr3 : Room 3 (A.deeper (envOfC "_law_good_answers" (defScope (topS 32)) s.heap.objs.size f cdv)) := hr.mono (by decide)
    refine ⟨_, pss_cons (ps_set (i := 3) sc_good.nd rfl (.inl rfl) (pe_call GF hr2 (by rfl) gF kF bF .nil pass0 (pa_cons (pv 0) (pa_cons (pv 1) (pa_cons pe_bl pa_nil)))))
      (pss_cons (ps_if (PW.pt (pw_or (pt_not (pt_val (pe_call GR hr3 (by rfl) gR kR bR .nil pass0 (pa_cons (pe_call GT hr (by rfl) gT kT bT .nil pass0 (pa_cons pe_int (pa_cons (pv 0) (pa_cons (pv 1) pa_nil)))) (pa_cons (pv 3) pa_nil)))))
          (pw_or1 (pt_not (pt_val (pe_call GR hr3 (by rfl) gR kR bR .nil pass0 (pa_cons (pe_call GT hr (by rfl) gT kT bT .nil pass0 (pa_cons pe_int (pa_cons (pv 0) (pa_cons (pv 1) pa_nil)))) (pa_cons (pv 3) pa_nil)))))))) pss_never pss_nil)
      (pss_cons (ps_if (PW.pt (pw_and (pt_val (pv 2)) (pw_and1 (pt_not (pt_val (pe_call GR hr3 (by rfl) gR kR bR .nil pass0 (pa_cons (pe_call GT hr (by rfl) gT kT bT .nil pass0 (pa_cons pe_int (pa_cons (pv 0) (pa_cons (pv 1) pa_nil))))
          (pa_cons (pe_call GF hr2 (by rfl) gF kF bF .nil pass0 (pa_cons (pv 0) (pa_cons (pv 1) (pa_cons pe_bl pa_nil)))) pa_nil)))))))) pss_never pss_nil)
      (pss_one (ps_ret (pe_call GR hr3 (by rfl) gR kR bR .nil pass0 (pa_cons (pe_call GT hr (by rfl) gT kT bT .nil pass0 (pa_cons pe_int (pa_cons (pv 0) (pa_cons (pv 1) pa_nil)))) (pa_cons (pv 3) pa_nil))))))), ?_⟩
    have t30 : t.length ≤ 30 := by omega
    have o30 : o.length ≤ 30 := by omega
    -- a question at told(k, ..) whose answer is the due one
    have ask : ∀ (k : Int) (sg' : Bool) (Q' : VK) (H1 : Hp), wayB k = sg' → (∀ r H2, Same H1 H2 → FewAns C H2 (lawF sg' t o) r → Q' r H2) → spTold C [.int k, .str (S t), .str (S o)] H1 Q' E0 :=
      fun k sg' Q' H1 e h => ⟨k, t, o, rfl, t30, o30, kt, ko, fun c => by omega, fun _ _ H2 r sm an => h r H2 sm (e ▸ an)⟩
    refine ⟨_, rfl, _, rfl, t, o, false, rfl, ht, o30, kt, ko, fun H1 rD sm1 hD => ?_⟩
    refine ⟨_, rfl, _, rfl, ask 0 false _ _ rfl fun r H2 sm2 hF => ?_⟩
    refine ⟨_, rfl, r, rD, _, rfl, hF, hD.mono sm2, fun bs l e => lawF_small e ht, fun H3 sm3 => ⟨_, rfl, iteF ?_⟩⟩
    refine ⟨_, rfl, _, rfl, ask 1 false _ _ rfl fun r H4 sm4 hF => ?_⟩
    refine ⟨_, rfl, r, rD, _, rfl, hF, hD.mono ((sm2.trans sm3).trans sm4), fun bs l e => lawF_small e ht, fun H5 sm5 => ⟨_, rfl, iteF ?_⟩⟩
    have smA : Same H1 H5 := ((sm2.trans sm3).trans sm4).trans sm5
    have fin : ∀ H6, Same H5 H6 → tRet (tCall (spRight C) [] E0 (tCons (tCall (spTold C) [] E0 (tCons (tC (.int 0)) (tCons (tVar 0) (tCons (tVar 1) tNil)))) (tCons (tVar 3) tNil))) { nx := fun _ H' => Q .non H', rt := Q } [some (.str (S t)), some (.str (S o)), some (.bl sg), some rD] H6 := by
      intro H6 sm6
      refine ⟨_, rfl, _, rfl, ask 0 false _ _ rfl fun r H7 sm7 hF => ?_⟩
      exact ⟨_, rfl, r, rD, _, rfl, hF, hD.mono ((smA.trans sm6).trans sm7), fun bs l e => lawF_small e ht, fun H8 sm8 => q H8 ((((sm1.trans smA).trans sm6).trans sm7).trans sm8)⟩
    refine ⟨_, rfl, sg, rfl, ?_⟩
    cases sg with
    | false => exact fin H5 (Same.refl _)
    | true =>
      refine ⟨_, rfl, _, rfl, ask 2 true _ _ rfl fun r H6 sm6 hF => ?_⟩
      refine ⟨_, rfl, _, rfl, t, o, true, rfl, ht, o30, kt, ko, fun H7 rE sm7 hE => ?_⟩
      refine ⟨r, rE, _, rfl, hF.mono sm7, hE, fun bs l e => lawF_small e ht, fun H8 sm8 => ⟨_, rfl, iteF ?_⟩⟩
      exact fin H8 ((sm6.trans sm7).trans sm8)
/-! ### _law_good_refusals -/
def spRef : Sp := fun vs H Q _ => ∃ t o : List Nat, vs = [.str (S t), .str (S o)] ∧ t.length ≤ 8 ∧ 8 < o.length ∧ o.length ≤ 30 ∧ OkT t ∧ OkT o ∧ ∀ H', Same H H' → Q (.bl true) H'
abbrev N_ref : List Str := ["_law_text_here", "_law_longer", "_law_due", "_law_way"]
theorem sc_ref : FnScope N_ref ["_law_text_here", "_law_longer"] (defScope (topS 35)) := ⟨rfl, rfl, rfl, by decide +kernel, rfl, by decide +kernel, by decide +kernel⟩
theorem ok_ref (A : At K mg "_law_good_refusals" (topS 35)) (T : Nm mg) (G2 : Ok P w K mg base CX0 5 "_law_told" ["_law_way", "_law_text_here", "_law_other"] (spTold C)) : Ok P w K mg base CX0 6 "_law_good_refusals" ["_law_text_here", "_law_longer"] spRef := by
  obtain ⟨fT, fdT, gT, kT, bT, GT⟩ := G2
  refine mk_ok A sc_ref (fun _ _ _ _ _ _ us hl => match us, hl with | [_, _], _ => rfl) (fun vs H Q E h => ?_) (fun f cdv A outer s H vs Q E hr h => ?_)
  · obtain ⟨t, o, rfl, _⟩ := h
    rfl
  · obtain ⟨t, o, rfl, ht, h8, h30, kt, ko, q⟩ := h
    refine ⟨_, pss_cons (ps_set (i := 2) sc_ref.nd rfl (.inl rfl) (pe_tup (pa_cons pe_str (pa_cons pe_int (pa_cons pe_bl pa_nil)))))
      (pss_cons (ps_for PassesOwn.never rfl (pi_range1 rfl T.range (pa_cons pe_int pa_nil)) (pg_name (i := 3) sc_ref.nd rfl (.inl rfl))
        (pss_cons (ps_if (PW.pt (pw_or (pt_cmpR (op_neD hr.units) (pe_call GT hr (by rfl) gT kT bT .nil pass0 (pa_cons (pv 3) (pa_cons (pv 1) (pa_cons (pv 0) pa_nil)))) (pv 2) (nomark _)) (pw_or1 (pt_cmpR (op_neD hr.units) (pe_call GT hr (by rfl) gT kT bT .nil pass0 (pa_cons (pv 3) (pa_cons (pv 0) (pa_cons (pv 1) pa_nil)))) (pv 2) (nomark _))))) pss_never pss_nil)
        (pss_one (ps_if (PW.pt (pw_or (pt_cmpR (op_neD hr.units) (pe_call GT hr (by rfl) gT kT bT .nil pass0 (pa_cons (pv 3) (pa_cons (pv 1) (pa_cons (pv 1) pa_nil)))) (pv 2) (nomark _)) (pw_or1 (pt_cmpR (op_neD hr.units) (pe_call GT hr (by rfl) gT kT bT .nil pass0 (pa_cons (pv 3) (pa_cons (pv 1) (pa_cons (pe_revT (pv 1)) pa_nil)))) (pv 2) (nomark _))))) pss_never pss_nil))))
      (pss_one (ps_ret pe_bl))), ?_⟩
    refine ⟨line_ge (by show 3 ≤ 16777216; decide), fun pd nd => ?_⟩
    have hd0 : (upd H pd (.tup [.str "letters", .int 8, .bl true])) pd = some (.tup [.str "letters", .int 8, .bl true]) := upd_same
    have sm0 : Same H (upd H pd (.tup [.str "letters", .int 8, .bl true])) := same_new nd
    generalize hH1 : upd H pd (.tup [.str "letters", .int 8, .bl true]) = H1 at hd0 sm0
    have kr : OkT o.reverse := fun c hc => ko c (List.mem_reverse.mp hc)
    -- told refuses
    have ask : ∀ (k : Int) (a b : List Nat) (Q' : VK) (H2 : Hp), a.length ≤ 30 → b.length ≤ 30 → OkT a → OkT b → (8 < a.length ∨ 8 < b.length) → Same H1 H2 →
        (∀ p r H3, r = .ref p → Same H2 H3 → H3 p = some (.tup [.str "letters", .int 8, .bl true]) → Q' r H3) → spTold C [.int k, .str (S a), .str (S b)] H2 Q' E0 :=
      fun k a b Q' H2 a30 b30 ka kb c sm h => ⟨k, a, b, rfl, a30, b30, ka, kb, fun _ H3 p r er sm3 hp => h p r H3 er sm3 hp, fun _ _ => by omega⟩
    have dp : ∀ {H3 : Hp} {p : Addr}, H3 p = some (.tup [.str "letters", .int 8, .bl true]) → Dp K H3 (.ref p) (.tuple [.str "letters", .int 8, .bool true]) := fun h => .tup (SqT.of h) (.cons (.str _) (.cons (.int _) (.cons (.bl _) .nil)))
    have shp : SeqAt.shaped (.tuple [.str "letters", .int 8, .bool true]) = true := by decide +kernel
    have eqv : PyData.eqv (.tuple [.str "letters", .int 8, .bool true]) (.tuple [.str "letters", .int 8, .bool true]) = true := by decide +kernel
    refine ⟨3, rfl, by decide, by decide, for_range (lo := 0) (n := (3 : Int).toNat) (fun i σ H' => ∃ v3, σ = [some (.str (S t)), some (.str (S o)), some (.ref pd), v3] ∧ Same H1 H') ⟨none, rfl, Same.refl _⟩ ?_ ?_⟩
    · rintro i σ H2 hi ⟨v3, rfl, sm2⟩
      have t30 : t.length ≤ 30 := by omega
      refine ⟨_, rfl, _, rfl, _, rfl, ask _ o t _ _ h30 t30 ko kt (.inl h8) sm2 fun p1 r1 H3 er1 sm3 hp1 => ?_⟩
      subst er1
      refine ⟨_, rfl, _, _, dp hp1, dp (sm3 _ _ (sm2 _ _ hd0)), shp, shp, _, rfl, ?_⟩
      rw [eqv]
      refine iteF ?_
      refine ⟨_, rfl, _, rfl, _, rfl, ask _ t o _ _ t30 h30 kt ko (.inr h8) (sm2.trans sm3) fun p2 r2 H4 er2 sm4 hp2 => ?_⟩
      subst er2
      refine ⟨_, rfl, _, _, dp hp2, dp (sm4 _ _ (sm3 _ _ (sm2 _ _ hd0))), shp, shp, _, rfl, ?_⟩
      rw [eqv]
      refine iteF ?_
      have sm5 := (sm2.trans sm3).trans sm4
      refine ⟨_, rfl, _, rfl, _, rfl, ask _ o o _ _ h30 h30 ko ko (.inr h8) sm5 fun p3 r3 H5 er3 sm6 hp3 => ?_⟩
      subst er3
      refine ⟨_, rfl, _, _, dp hp3, dp (sm6 _ _ (sm5 _ _ hd0)), shp, shp, _, rfl, ?_⟩
      rw [eqv]
      refine iteF ?_
      refine ⟨_, rfl, _, rfl, _, rfl, S o, rfl, by rw [S_len]; exact line_ge (by omega), ask _ o o.reverse _ _ h30 (by rw [List.length_reverse]; exact h30) ko kr (.inl h8) (sm5.trans sm6) fun p4 r4 H6 er4 sm7 hp4 => ?_⟩
      subst er4
      refine ⟨_, rfl, _, _, dp hp4, dp (sm7 _ _ (sm6 _ _ (sm5 _ _ hd0))), shp, shp, _, rfl, ?_⟩
      rw [eqv]
      exact iteF ⟨_, rfl, (sm5.trans sm6).trans sm7⟩
    · rintro σ H2 ⟨v3, rfl, sm2⟩
      exact q H2 (sm0.trans sm2)
end
end TW

set_option Elab.async false
set_option linter.all false
set_option maxRecDepth 100000
set_option maxHeartbeats 4000000
namespace TW
open PySem PySem.Spec PyProof.Rows L2
/-! ### the exchanged text has the text's letters -/
theorem mv_len {ps : List (List Nat)} {b : Int} (hb : 1 ≤ b.natAbs) : (mv ps b).length = (ps.getD (b.natAbs - 1) []).length := by
  unfold mv
  split
  · have e : (b - 1).toNat = b.natAbs - 1 := by omega
    rw [e]
  · have e : (-b - 1).toNat = b.natAbs - 1 := by omega
    rw [List.length_reverse, e]
theorem pieces_sum {t : List Nat} : ∀ (l : List Int) (a : Nat), (∀ x ∈ l, 0 ≤ x) → a + sumN l ≤ t.length → ((pieces t a l).map List.length).sum = sumN l
  | [], _, _, _ => rfl
  | x :: r, a, h, hs => by
    have e : sumN (x :: r) = x.toNat + sumN r := by
      unfold sumN
      rw [List.map_cons, List.sum_cons]
    rw [e] at hs ⊢
    have ih := pieces_sum (t := t) r (a + x.toNat) (fun y hy => h y (List.mem_cons_of_mem _ hy)) (by omega)
    show ((t.drop a).take x.toNat).length + ((pieces t (a + x.toNat) r).map List.length).sum = _
    rw [ih, List.length_take, List.length_drop]
    omega
theorem sumN_int : ∀ {l : List Int}, (∀ x ∈ l, 0 ≤ x) → ((sumN l : Nat) : Int) = l.sum
  | [], _ => rfl
  | x :: r, h => by
    have e : sumN (x :: r) = x.toNat + sumN r := by
      unfold sumN
      rw [List.map_cons, List.sum_cons]
    have ih := sumN_int (l := r) fun y hy => h y (List.mem_cons_of_mem _ hy)
    have h0 := h x List.mem_cons_self
    rw [e, List.sum_cons]
    omega
theorem getD_sum (ps : List (List Nat)) : ((List.range' 1 ps.length).map fun n => (ps.getD (n - 1) []).length) = ps.map List.length := by
  apply List.ext_getElem
  · rw [List.length_map, List.length_map, List.length_range']
  · intro i h1 h2
    rw [List.length_map] at h2
    rw [List.getElem_map, List.getElem_map, List.getElem_range']
    have e : 1 + 1 * i - 1 = i := by omega
    rw [e, List.getD_eq_getElem?_getD, List.getElem?_eq_getElem h2]
    rfl
theorem moved_len {t : List Nat} {m : Nat} {bs l : List Int} (hp : PermB m bs) (hl : l ∈ cuts t.length m) : (moved bs (pieces t 0 l)).flatten.length = t.length := by
  obtain ⟨l1, l2, l3⟩ := mem_cuts.mp hl
  have h0 : ∀ x ∈ l, 0 ≤ x := fun x hx => by have := l2 x hx; omega
  have hs : sumN l = t.length := by
    have := sumN_int h0
    omega
  have hpl : (pieces t 0 l).length = m := by rw [pieces_len, l1]
  have e1 : (moved bs (pieces t 0 l)).map List.length = (bs.map Int.natAbs).map fun n => ((pieces t 0 l).getD (n - 1) []).length := by
    unfold moved
    rw [List.map_map, List.map_map]
    apply List.map_congr_left
    intro b hb
    have h1 : b.natAbs ∈ List.range' 1 m := hp.mem_iff.mp (List.mem_map.mpr ⟨b, hb, rfl⟩)
    rw [List.mem_range'_1] at h1
    exact mv_len h1.1
  rw [List.length_flatten, e1, ((hp.map fun n => ((pieces t 0 l).getD (n - 1) []).length)).sum_nat]
  rw [← hpl, getD_sum, pieces_sum l 0 h0 (by omega), hs]
theorem pieces_mem {t : List Nat} : ∀ (l : List Int) (a : Nat), ∀ p ∈ pieces t a l, ∀ c ∈ p, c ∈ t
  | [], _, p, hp, _, _ => by cases hp
  | x :: r, a, p, hp, c, hc => by
    rcases List.mem_cons.mp (show p ∈ (t.drop a).take x.toNat :: pieces t (a + x.toNat) r from hp) with rfl | hp
    · exact List.mem_of_mem_drop (List.mem_of_mem_take hc)
    · exact pieces_mem r _ p hp c hc
theorem moved_ok {t : List Nat} {bs l : List Int} (kt : OkT t) : OkT (moved bs (pieces t 0 l)).flatten := by
  have key : ∀ i c, c ∈ (pieces t 0 l).getD i [] → c ∈ t := by
    intro i c hc
    rw [List.getD_eq_getElem?_getD] at hc
    cases e : (pieces t 0 l)[i]? with
    | none =>
      rw [e] at hc
      cases hc
    | some p =>
      rw [e] at hc
      exact pieces_mem l 0 p (List.mem_of_getElem? e) c hc
  intro c hc
  obtain ⟨p, hp, hcp⟩ := List.mem_flatten.mp hc
  unfold moved at hp
  obtain ⟨b, _, rfl⟩ := List.mem_map.mp hp
  unfold mv at hcp
  split at hcp
  · exact kt c (key _ c hcp)
  · exact kt c (key _ c (List.mem_reverse.mp hcp))
theorem cut_ints (ds : List Int) (a b : Nat) (hb : b ≤ ds.length) (hab : a ≤ b) : cutV (ds.map V.int) (some (a : Int)) (some (b : Int)) = ((ds.drop a).take (b - a)).map V.int := by
  unfold cutV
  rw [List.length_map, HT.sIx_nat, HT.sIx_nat, Nat.min_eq_left hb, Nat.min_eq_left (by omega), List.map_take, List.map_drop]
theorem cut_to (o : List Nat) (k : Nat) : L2.cutS (S o) none (some (k : Int)) = S (o.take k) := by
  unfold L2.cutS
  rw [S_codes', HT.sIx_none, HT.sIx_nat, S_len, List.drop_zero, Nat.sub_zero]
  show S _ = S _
  congr 1
  by_cases h : k ≤ o.length
  · rw [Nat.min_eq_left h]
  · rw [Nat.min_eq_right (by omega), List.take_of_length_le (Nat.le_refl _), List.take_of_length_le (by omega)]
theorem cut_from (o : List Nat) (k : Nat) : L2.cutS (S o) (some (k : Int)) none = S (o.drop k) := by
  unfold L2.cutS
  rw [S_codes', HT.sIx_none, HT.sIx_nat, S_len]
  show S _ = S _
  congr 1
  by_cases h : k ≤ o.length
  · rw [Nat.min_eq_left h, List.take_of_length_le (by rw [List.length_drop]; exact Nat.le_refl _)]
  · rw [Nat.min_eq_right (by omega), List.drop_of_length_le (Nat.le_refl _), List.drop_of_length_le (by omega)]
    simp
theorem fmod_nat {d : Int} {n : Nat} (h : 0 < n) : ∃ j : Nat, d.fmod (n : Int) = (j : Int) ∧ j < n := by
  have g0 : 0 ≤ Int.fmod d (n : Int) := Int.fmod_nonneg_of_pos _ (by omega)
  have g1 : Int.fmod d (n : Int) < (n : Int) := Int.fmod_lt_of_pos _ (by omega)
  exact ⟨(Int.fmod d (n : Int)).toNat, by omega, by omega⟩
theorem int_get {ds : List Int} {i : Nat} (h : i < ds.length) : ∃ d, ds[i]? = some d ∧ (ds.map V.int)[i]? = some (.int d) := ⟨_, List.getElem?_eq_getElem h, int_at (List.getElem?_eq_getElem h)⟩
section
variable {P : Program} {w : World} {K : PySem.W.Frag} {mg : Str → Option Value} {base : Heap}
/-! ### _law_exchanged -/
def spExch (K : PySem.W.Frag) : Sp := fun vs H Q _ => ∃ (t : List Nat) (c : Int) (m : Nat) (dr : Addr) (ds : List Int), vs = [.str (S t), .int c, .int (m : Int), .ref dr] ∧ SqL K H dr (ds.map V.int) ∧ 2 ≤ ds.length ∧ OkT t ∧ 1 ≤ m ∧ m ≤ t.length ∧ t.length ≤ 8 ∧
  ∀ (H' : Hp) (o : List Nat), Same H H' → o.length = t.length → OkT o → Q (.str (S o)) H'
abbrev N_exch : List Str := ["_law_text_here", "_law_cell_here", "_law_many", "_law_draws_here", "_law_cuts", "_law_blocks_here"]
theorem sc_exch : FnScope N_exch ["_law_text_here", "_law_cell_here", "_law_many", "_law_draws_here"] (defScope (topS 33)) := ⟨rfl, rfl, rfl, by decide +kernel, rfl, by decide +kernel, by decide +kernel⟩
theorem ok_exch (A : At K mg "_law_exchanged" (topS 33)) (T : Nm mg) (G1 : Ok P w K mg base CX0 1 "_law_cuttings" ["_law_length", "_law_many"] spCuts) (G2 : Ok P w K mg base CX0 1 "_law_draws" ["_law_cell_here", "_law_many"] spDraws)
    (G3 : Ok P w K mg base CX0 1 "_law_blocks" ["_law_cell_here", "_law_many", "_law_signed"] (spBlocks K)) (G4 : Ok P w K mg base CX0 1 "_law_cut" ["_law_text_here", "_law_lengths"] (spCut K)) (G5 : Ok P w K mg base CX0 1 "_law_moved" ["_law_blocks_here", "_law_texts"] (spMoved K)) :
    Ok P w K mg base CX0 2 "_law_exchanged" ["_law_text_here", "_law_cell_here", "_law_many", "_law_draws_here"] (spExch K) := by
  obtain ⟨fC, fdC, gC, kC, bC, GC⟩ := G1
  obtain ⟨fD, fdD, gD, kD, bD, GD⟩ := G2
  obtain ⟨fB, fdB, gB, kB, bB, GB⟩ := G3
  obtain ⟨fU, fdU, gU, kU, bU, GU⟩ := G4
  obtain ⟨fM, fdM, gM, kM, bM, GM⟩ := G5
  refine mk_ok A sc_exch (fun _ _ _ _ _ _ us hl => match us, hl with | [_, _, _, _], _ => rfl) (fun vs H Q E h => ?_) (fun f cdv A outer s H vs Q E hr h => ?_)
  · obtain ⟨t, c, m, dr, ds, rfl, _⟩ := h
    rfl
  · obtain ⟨t, c, m, dr, ds, rfl, hS, hd2, kt, m1, mt, a8, q⟩ := h
    refine ⟨_, pss_cons (ps_set (i := 4) sc_exch.nd rfl (.inl rfl) (pe_call GC hr (by rfl) gC kC bC .nil pass0 (pa_cons (pe_callB call_len_str (by rfl) T.len PySem.boot_len (pa_cons (pv 0) pa_nil)) (pa_cons (pv 2) pa_nil))))
      (pss_cons (ps_set (i := 5) sc_exch.nd rfl (.inl rfl) (pe_call GB hr (by rfl) gB kB bB .nil pass0 (pa_cons (pe_call GD hr (by rfl) gD kD bD .nil pass0 (pa_cons (pv 1) (pa_cons (pv 2) pa_nil))) (pa_cons (pv 2) (pa_cons
        (pe_cmpR op_eq (pe_op op_modN (pe_callTy call_int1 (by rfl) T.int boot_int (pa_cons (pe_ix ix_list (pv 3) pe_int (fun _ _ => rfl)) pa_nil)) pe_int) pe_int (nomark _)) pa_nil)))))
      (pss_one (ps_ret (pe_join pe_str (pe_call GM hr (by rfl) gM kM bM .nil pass0 (pa_cons (pv 5) (pa_cons (pe_call GU hr (by rfl) gU kU bU .nil pass0 (pa_cons (pv 0) (pa_cons
        (pe_ix ix_list (pv 4) (pe_op op_modN (pe_callTy call_int1 (by rfl) T.int boot_int (pa_cons (pe_ix ix_list (pv 3) pe_int (fun _ _ => rfl)) pa_nil)) (pe_callB call_len_seq (by rfl) T.len PySem.boot_len (pa_cons (pv 4) pa_nil))) (fun _ _ => rfl)) pa_nil))) pa_nil))))))), ?_⟩
    have z1 : (S t).length ≤ sizeLine := by
      rw [S_len]
      exact line_ge (by omega)
    refine ⟨_, rfl, S t, rfl, z1, _, rfl, t.length, m, by show [V.int ((S t).length : Int), V.int (m : Int)] = _; rw [S_len], a8, by omega, fun H1 fc B => ?_⟩
    obtain ⟨ls, hfc, TL⟩ := B.ex
    have hpos := cuts_pos (n := t.length) (m := m) m1 mt
    have hlsl := TL.length
    obtain ⟨d0, hd0, hv0⟩ := int_get (ds := ds) (i := 0) (by omega)
    obtain ⟨d1, hd1, hv1⟩ := int_get (ds := ds) (i := 1) (by omega)
    refine ⟨_, rfl, _, rfl, c, m, rfl, by omega, fun H2 pd ds2 sm2 npd hpd l2 d2 => ?_⟩
    have smA := B.same.trans sm2
    refine ⟨_, rfl, _, rfl, dr, _, _, .int d0, rfl, rfl, smA.seq hS, at_of (j := 0) rfl hv0, .inl ⟨_, rfl, _, _, rfl, rfl, (by show (2 : Int) ≠ 0; decide), rfl, ?_⟩⟩
    refine ⟨pd, ds2, m, _, rfl, SqL.of hpd, l2, by omega, fun H3 pb bs sm3 npb hpb perm => ?_⟩
    have hPB : PermB m bs := perm
    have hbl := hPB.len
    have smB := smA.trans sm3
    have hfc3 : H3 fc = some (.lst ls) := sm3 _ _ (sm2 _ _ hfc)
    obtain ⟨j, ej, hj⟩ := fmod_nat (d := d1) (n := ls.length) (by omega)
    obtain ⟨v, hv⟩ : ∃ v, ls[j]? = some v := ⟨_, List.getElem?_eq_getElem hj⟩
    obtain ⟨q5, l, rfl, hl, hq5⟩ := TL.get hv
    have hlm := List.mem_of_getElem? hl
    obtain ⟨l1, l2', l3⟩ := mem_cuts.mp hlm
    have hq6 := sm3 _ _ (sm2 _ _ hq5)
    have ht30 : t.length ≤ 30 := by omega
    refine ⟨⟨_, rfl⟩, _, rfl, _, rfl, _, rfl, _, rfl, dr, _, _, .int d1, rfl, rfl, smB.seq hS, at_of (j := 1) rfl hv1, .inl ⟨_, rfl, _, rfl, fc, _, rfl, .inl (SqL.of hfc3), _, _, rfl, rfl, by omega, fc, ls, _, .ref q5, rfl, rfl, SqL.of hfc3, at_of (j := j) ej hv, ?_⟩⟩
    refine ⟨q5, t, l, rfl, SqT.of hq6, fun y hy => by have := l2' y hy; omega, by omega, ht30, fun H6 p6 sm6 np6 hp6 => ?_⟩
    have hfit : Fits bs (pieces t 0 l) := hPB.fits (by rw [pieces_len]; exact l1)
    refine ⟨pb, p6, bs, pieces t 0 l, rfl, SqT.of (sm6 _ _ hpb), SqL.of hp6, hfit, by omega, pieces_le ht30 l 0, fun H7 p7 sm7 np7 hp7 => ?_⟩
    refine ⟨_, p7, _, rfl, rfl, .inl (SqL.of hp7), ?_, ?_⟩
    · have h1 := flat_len (bs := bs) (ps := pieces t 0 l) (by omega) (pieces_le ht30 l 0)
      show _ + _ * 0 ≤ 16777216
      omega
    · rw [join_S]
      exact q H7 _ ((smB.trans sm6).trans sm7) (moved_len hPB hlm) (moved_ok kt)
/-! ### _law_drawn_other -/
def spOther (K : PySem.W.Frag) : Sp := fun vs H Q _ => ∃ (sc : Addr) (ns : List Int) (t : List Nat) (dr : Addr) (ds : List Int) (z : Str), vs = [.ref sc, .str (S t), .ref dr, .str z] ∧ SqL K H sc (ns.map V.int) ∧ SqL K H dr (ds.map V.int) ∧ ds.length = 6 ∧ OkT t ∧ t.length ≤ 8 ∧
  1 ≤ z.length ∧ z.length ≤ 4 ∧ OkT z.cps.toList ∧ ∀ (H' : Hp) (o : List Nat), Same H H' → o.length ≤ 8 → OkT o → Q (.str (S o)) H'
abbrev N_other : List Str := ["_law_script", "_law_text_here", "_law_draws_here", "_law_letters_here", "_law_form", "_law_other", "_law_at"]
theorem sc_other : FnScope N_other ["_law_script", "_law_text_here", "_law_draws_here", "_law_letters_here"] (defScope (topS 34)) := ⟨rfl, rfl, rfl, by decide +kernel, rfl, by decide +kernel, by decide +kernel⟩
theorem ok_other (A : At K mg "_law_drawn_other" (topS 34)) (T : Nm mg) (G1 : Ok P w K mg base CX0 1 "_law_cell" ["_law_script", "_law_k"] (spCell K)) (G2 : Ok P w K mg base CX0 1 "_law_draws" ["_law_cell_here", "_law_many"] spDraws)
    (G3 : Ok P w K mg base CX0 1 "_law_text" ["_law_draws_here", "_law_letters_here"] (spText K)) (G4 : Ok P w K mg base CX0 2 "_law_exchanged" ["_law_text_here", "_law_cell_here", "_law_many", "_law_draws_here"] (spExch K)) :
    Ok P w K mg base CX0 3 "_law_drawn_other" ["_law_script", "_law_text_here", "_law_draws_here", "_law_letters_here"] (spOther K) := by
  obtain ⟨fC, fdC, gC, kC, bC, GC⟩ := G1
  obtain ⟨fD, fdD, gD, kD, bD, GD⟩ := G2
  obtain ⟨fT, fdT, gT, kT, bT, GT⟩ := G3
  obtain ⟨fE, fdE, gE, kE, bE, GE⟩ := G4
  refine mk_ok A sc_other (fun _ _ _ _ _ _ us hl => match us, hl with | [_, _, _, _], _ => rfl) (fun vs H Q E h => ?_) (fun f cdv A outer s H vs Q E hr h => ?_)
  · obtain ⟨sc, ns, t, dr, ds, z, rfl, _⟩ := h
    rfl
  · obtain ⟨sc, ns, t, dr, ds, z, rfl, hN, hS, hd6, kt, a8, z1, z4, zk, q⟩ := h
    have hr1 : Room 1 (A.deeper (envOfC "_law_drawn_other" (defScope (topS 34)) s.heap.objs.size f cdv)) := hr.mono (by decide)
    refine ⟨_, pss_cons (ps_set (i := 4) sc_other.nd rfl (.inl rfl) (pe_op op_modN (pe_callTy call_int1 (by rfl) T.int boot_int (pa_cons (pe_ix ix_list (pv 2) pe_int (fun _ _ => rfl)) pa_nil)) pe_int))
      (pss_cons (ps_if (pt_cmpR op_eq (pv 4) pe_int (nomark _))
        (pss_one (ps_ret (pe_call GT hr1 (by rfl) gT kT bT .nil pass0 (pa_cons (pe_call GD hr1 (by rfl) gD kD bD .nil pass0 (pa_cons (pe_call GC hr1 (by rfl) gC kC bC .nil pass0 (pa_cons (pv 0) (pa_cons pe_int pa_nil)))
          (pa_cons (pe_op op_modN (pe_callTy call_int1 (by rfl) T.int boot_int (pa_cons (pe_ix ix_list (pv 2) pe_int (fun _ _ => rfl)) pa_nil)) pe_int) pa_nil))) (pa_cons (pv 3) pa_nil))))) pss_nil)
      (pss_cons (ps_if (pt_cmpR op_eq (pe_callB call_len_str (by rfl) T.len PySem.boot_len (pa_cons (pv 1) pa_nil)) pe_int (nomark _)) (pss_one (ps_ret pe_str)) pss_nil)
      (pss_cons (ps_set (i := 5) sc_other.nd rfl (.inl rfl) (pe_call GE hr (by rfl) gE kE bE .nil pass0 (pa_cons (pv 1) (pa_cons (pe_call GC hr1 (by rfl) gC kC bC .nil pass0 (pa_cons (pv 0) (pa_cons pe_int pa_nil)))
        (pa_cons (pe_op op_add pe_int (pe_op op_modN (pe_callTy call_int1 (by rfl) T.int boot_int (pa_cons (pe_ix ix_list (pv 2) pe_int (fun _ _ => rfl)) pa_nil)) (pe_callB call_len_str (by rfl) T.len PySem.boot_len (pa_cons (pv 1) pa_nil))))
        (pa_cons (pe_slice sl_list (pv 2) (po_some pe_int) (po_some pe_int)) pa_nil))))))
      (pss_cons (ps_if (pt_cmpR op_eq (pv 4) pe_int (nomark _))
        (pss_cons (ps_set (i := 6) sc_other.nd rfl (.inl rfl) (pe_op op_modN (pe_callTy call_int1 (by rfl) T.int boot_int (pa_cons (pe_ix ix_list (pv 2) pe_int (fun _ _ => rfl)) pa_nil)) (pe_callB call_len_str (by rfl) T.len PySem.boot_len (pa_cons (pv 1) pa_nil))))
        (pss_one (ps_ret (pe_op op_add_str (pe_op op_add_str (pe_slice sl_str (pv 5) po_none (po_some (pv 6)))
          (pe_ix ix_str (pv 3) (pe_op op_modN (pe_callTy call_int1 (by rfl) T.int boot_int (pa_cons (pe_ix ix_list (pv 2) pe_int (fun _ _ => rfl)) pa_nil)) (pe_callB call_len_str (by rfl) T.len PySem.boot_len (pa_cons (pv 3) pa_nil))) (fun _ _ => rfl)))
          (pe_slice sl_str (pv 5) (po_some (pe_op op_add (pv 6) pe_int)) po_none))))) pss_nil)
      (pss_one (ps_ret (pv 5))))))), ?_⟩
    have zt : (S t).length ≤ sizeLine := by
      rw [S_len]
      exact line_ge (by omega)
    obtain ⟨d0, hd0, hv0⟩ := int_get (ds := ds) (i := 0) (by omega)
    obtain ⟨d1, hd1, hv1⟩ := int_get (ds := ds) (i := 1) (by omega)
    obtain ⟨d4, hd4, hv4⟩ := int_get (ds := ds) (i := 4) (by omega)
    obtain ⟨d5, hd5, hv5⟩ := int_get (ds := ds) (i := 5) (by omega)
    refine ⟨_, rfl, dr, _, _, .int d0, rfl, rfl, hS, at_of (j := 0) rfl hv0, .inl ⟨_, rfl, _, _, rfl, rfl, (by show (8 : Int) ≠ 0; decide), ?_⟩⟩
    refine ⟨_, rfl, rfl, _, rfl, ite2 (fun e => ?_) (fun e => ?_)⟩
    · obtain ⟨j, ej, hj⟩ := fmod_nat (d := d1) (n := 6) (by decide)
      refine ⟨_, rfl, sc, ns, 3, rfl, hN, by decide, fun c => ?_⟩
      refine ⟨_, rfl, dr, _, _, .int d1, rfl, rfl, hS, at_of (j := 1) rfl hv1, .inl ⟨_, rfl, _, _, rfl, rfl, (by show (6 : Int) ≠ 0; decide), c, j, by rw [← ej]; rfl, by omega, fun H1 p ds1 sm1 np1 hp1 l1 _ => ?_⟩⟩
      refine ⟨_, rfl, p, z, ds1, rfl, SqL.of hp1, by omega, z1, z4, zk, fun H2 o sm2 ol ok => ?_⟩
      exact q H2 o (sm1.trans sm2) (by omega) ok
    · refine ⟨_, rfl, S t, rfl, zt, rfl, _, rfl, ?_⟩
      rw [dec_ints, S_len]
      refine ite2 (fun e2 => ?_) (fun e2 => ?_)
      · show Q (V.str (PySem.Str.ofString "")) H
        rw [empty_S]
        exact q H [] (Same.refl _) (Nat.zero_le _) fun c hc => by cases hc
      · have tpos : 0 < t.length := by
          rcases Nat.eq_zero_or_pos t.length with h | h
          · exact absurd (decide_eq_true (by omega)) e2
          · exact h
        obtain ⟨j, ej, hj⟩ := fmod_nat (d := d1) (n := t.length) tpos
        obtain ⟨k, ek, hk⟩ := fmod_nat (d := d4) (n := t.length) tpos
        obtain ⟨i5, e5, h5⟩ := fmod_nat (d := d5) (n := z.length) (by omega)
        have hcut : cutV (ds.map V.int) (some 2) (some 4) = ((ds.drop 2).take 2).map V.int := cut_ints ds 2 4 (by omega) (by decide)
        refine ⟨_, rfl, _, rfl, sc, ns, 2, rfl, hN, by decide, fun c => ?_⟩
        refine ⟨_, rfl, dr, _, _, .int d1, rfl, rfl, hS, at_of (j := 1) rfl hv1, .inl ⟨_, rfl, _, rfl, S t, rfl, zt, _, _, rfl, rfl, by rw [S_len]; omega, _, _, rfl, rfl, _, rfl, 2, rfl, 4, rfl, dr, _, rfl, hS, fun pc npc => ?_⟩⟩
        have sm0 : Same H (upd H pc (.lst (cutV (ds.map V.int) (some 2) (some 4)))) := same_new npc
        have hpc : (upd H pc (.lst (cutV (ds.map V.int) (some 2) (some 4)))) pc = some (.lst (((ds.drop 2).take 2).map V.int)) := by
          rw [upd_same, hcut]
        refine ⟨t, c, 1 + j, pc, (ds.drop 2).take 2, ?_, SqL.of hpc, by rw [List.length_take, List.length_drop]; omega, kt, by omega, by omega, a8, fun H1 o sm1 ol ok => ?_⟩
        · have e3 : (1 : Int) + d1.fmod ((S t).length : Int) = ((1 + j : Nat) : Int) := by
            rw [S_len, ej]
            omega
          show [V.str (S t), V.int c, V.int (1 + d1.fmod ((S t).length : Int)), V.ref pc] = _
          rw [e3]
        have smA := sm0.trans sm1
        refine ⟨_, rfl, rfl, _, rfl, ite2 (fun e3 => ?_) (fun e3 => ?_)⟩
        · refine ⟨_, rfl, dr, _, _, .int d4, rfl, rfl, smA.seq hS, at_of (j := 4) rfl hv4, .inl ⟨_, rfl, _, rfl, S t, rfl, zt, _, _, rfl, rfl, by rw [S_len]; omega, ?_⟩⟩
          have zo : (S o).length ≤ sizeLine := by
            rw [S_len]
            exact line_ge (by omega)
          have eK : d4.fmod ((S t).length : Int) = (k : Int) := by rw [S_len, ek]
          have hi5 : i5 < z.cps.toList.length := by
            rw [Array.length_toList]
            exact h5
          refine ⟨_, rfl, _, rfl, _, rfl, S o, rfl, zo, ?_⟩
          refine ⟨_, rfl, _, rfl, dr, _, _, .int d5, rfl, rfl, smA.seq hS, at_of (j := 5) rfl hv5, .inl ⟨_, rfl, _, rfl, z, rfl, line_ge (by omega), _, _, rfl, rfl, by omega, z, _, z.cps.toList[i5], rfl, rfl, line_ge (by omega), (by rw [e5]; exact atI_nat (List.getElem?_eq_getElem hi5)), ?_⟩⟩
          refine ⟨_, _, rfl, rfl, ?_, ?_⟩
          · have h7 := cutS_length (S o) none (some (d4.fmod ((S t).length : Int)))
            have h8 : (S o).length = o.length := S_len o
            refine line_ge ?_
            show _ + 1 ≤ _
            omega
          refine ⟨_, rfl, _, rfl, _, _, rfl, rfl, _, rfl, S o, rfl, zo, _, _, rfl, rfl, ?_, ?_⟩
          · have e6 : ((k : Int) + 1) = ((k + 1 : Nat) : Int) := by omega
            show (L2.cutS (S o) none (some (d4.fmod ((S t).length : Int))) ++ S [z.cps.toList[i5]]).length + (L2.cutS (S o) (some (d4.fmod ((S t).length : Int) + 1)) none).length ≤ sizeLine
            rw [eK, e6, cut_from, cut_to, S_append, S_len, S_len, List.length_append, List.length_take, List.length_drop]
            exact line_ge (by show _ ≤ 16777216; simp only [List.length_cons, List.length_nil]; omega)
          · have e6 : ((k : Int) + 1) = ((k + 1 : Nat) : Int) := by omega
            show Q (V.str ((L2.cutS (S o) none (some (d4.fmod ((S t).length : Int))) ++ S [z.cps.toList[i5]]) ++ L2.cutS (S o) (some (d4.fmod ((S t).length : Int) + 1)) none)) H1
            rw [eK, e6, cut_from, cut_to, S_append, S_append]
            refine q H1 _ smA ?_ ?_
            · rw [List.length_append, List.length_append, List.length_take, List.length_drop]
              simp only [List.length_cons, List.length_nil]
              omega
            · intro c' hc'
              rcases List.mem_append.mp hc' with hc' | hc'
              · rcases List.mem_append.mp hc' with hc' | hc'
                · exact ok c' (List.mem_of_mem_take hc')
                · rw [List.mem_singleton.mp hc']
                  exact zk _ (List.getElem_mem hi5)
              · exact ok c' (List.mem_of_mem_drop hc')
        · exact ⟨_, rfl, q H1 o smA (by omega) ok⟩
end
end TW

set_option Elab.async false
set_option linter.all false
set_option maxRecDepth 100000
set_option maxHeartbeats 4000000
namespace TW
open PySem PySem.Spec PyProof.Rows L2
section
variable {P : Program} {w : World} {K : PySem.W.Frag} {mg : Str → Option Value} {base : Heap} {C : Addr}
def spLaw (K : PySem.W.Frag) : Sp := fun vs H Q _ => ∃ (a : Addr) (ns : List Int), vs = [.ref a] ∧ SqL K H a (ns.map V.int) ∧ ns.length ≤ 63 ∧ ∀ H', Q (.bl true) H'
abbrev N_law : List Str := ["_law_script", "_law_draws_here", "_law_letters_here", "_law_text_here", "_law_other", "_law_large", "_law_moved_here", "_law_longer"]
theorem sc_law : FnScope N_law ["_law_script"] (defScope (topS 36)) := ⟨rfl, rfl, rfl, by decide +kernel, rfl, by decide +kernel, by decide +kernel⟩
theorem ok_law {f : Addr} {fd : FuncData} (F : Fun K "law" "law" (topS 36) f fd) (T : Nm mg) (G1 : Ok P w K mg base CX0 1 "_law_cell" ["_law_script", "_law_k"] (spCell K)) (G2 : Ok P w K mg base CX0 1 "_law_draws" ["_law_cell_here", "_law_many"] spDraws)
    (G3 : Ok P w K mg base CX0 1 "_law_letters" ["_law_draw"] spLetters) (G4 : Ok P w K mg base CX0 1 "_law_text" ["_law_draws_here", "_law_letters_here"] (spText K)) (G5 : Ok P w K mg base CX0 3 "_law_drawn_other" ["_law_script", "_law_text_here", "_law_draws_here", "_law_letters_here"] (spOther K))
    (G6 : Ok P w K mg base CX0 6 "_law_good_answers" ["_law_text_here", "_law_other", "_law_signed"] spGood) (G7 : Ok P w K mg base CX0 2 "_law_exchanged" ["_law_text_here", "_law_cell_here", "_law_many", "_law_draws_here"] (spExch K))
    (G8 : Ok P w K mg base CX0 6 "_law_good_refusals" ["_law_text_here", "_law_longer"] spRef) (G9 : Ok P w K mg base CX0 3 "_law_right" ["_law_found", "_law_due"] (spRight C)) (G10 : Ok P w K mg base CX0 5 "_law_told" ["_law_way", "_law_text_here", "_law_other"] (spTold C))
    (G11 : Ok P w K mg base CX0 2 "_law_first" ["_law_text_here", "_law_other", "_law_signed"] spFirst) : FnOk P w K mg base CX0 7 f fd ["_law_script"] (spLaw K) := by
  obtain ⟨f1, fd1, g1, k1, b1, F1⟩ := G1
  obtain ⟨f2, fd2, g2, k2, b2, F2⟩ := G2
  obtain ⟨f3, fd3, g3, k3, b3, F3⟩ := G3
  obtain ⟨f4, fd4, g4, k4, b4, F4⟩ := G4
  obtain ⟨f5, fd5, g5, k5, b5, F5⟩ := G5
  obtain ⟨f6, fd6, g6, k6, b6, F6⟩ := G6
  obtain ⟨f7, fd7, g7, k7, b7, F7⟩ := G7
  obtain ⟨f8, fd8, g8, k8, b8, F8⟩ := G8
  obtain ⟨f9, fd9, g9, k9, b9, F9⟩ := G9
  obtain ⟨f10, fd10, g10, k10, b10, F10⟩ := G10
  obtain ⟨f11, fd11, g11, k11, b11, F11⟩ := G11
  refine F.ok sc_law (fun vs H Q E h => ?_) (fun cdv A outer s H vs Q E hr h => ?_)
  · obtain ⟨a, ns, rfl, _⟩ := h
    rfl
  · obtain ⟨a, ns, rfl, hN, h63, q⟩ := h
    have r1 : Room 1 (A.deeper (envOfC "law" (defScope (topS 36)) s.heap.objs.size f cdv)) := hr.mono (by decide)
    have r2 : Room 2 (A.deeper (envOfC "law" (defScope (topS 36)) s.heap.objs.size f cdv)) := hr.mono (by decide)
    have r3 : Room 3 (A.deeper (envOfC "law" (defScope (topS 36)) s.heap.objs.size f cdv)) := hr.mono (by decide)
    have r5 : Room 5 (A.deeper (envOfC "law" (defScope (topS 36)) s.heap.objs.size f cdv)) := hr.mono (by decide)
    refine ⟨_, pss_cons (ps_set (i := 1) sc_law.nd rfl (.inl rfl) (pe_call F2 r1 (by rfl) g2 k2 b2 .nil pass0 (pa_cons (pe_call F1 r1 (by rfl) g1 k1 b1 .nil pass0 (pa_cons (pv 0) (pa_cons pe_int pa_nil))) (pa_cons pe_int pa_nil))))
      (pss_cons (ps_set (i := 2) sc_law.nd rfl (.inl rfl) (pe_call F3 r1 (by rfl) g3 k3 b3 .nil pass0 (pa_cons (pe_op op_add (pe_ix ix_list (pv 1) pe_int (fun _ _ => rfl)) (pe_op op_mul pe_int (pe_ix ix_list (pv 1) pe_int (fun _ _ => rfl)))) pa_nil)))
      (pss_cons (ps_set (i := 3) sc_law.nd rfl (.inl rfl) (pe_call F4 r1 (by rfl) g4 k4 b4 .nil pass0 (pa_cons (pe_call F2 r1 (by rfl) g2 k2 b2 .nil pass0 (pa_cons (pe_call F1 r1 (by rfl) g1 k1 b1 .nil pass0 (pa_cons (pv 0) (pa_cons pe_int pa_nil)))
          (pa_cons (pe_op op_modN (pe_callTy call_int1 (by rfl) T.int boot_int (pa_cons (pe_ix ix_list (pv 1) pe_int (fun _ _ => rfl)) pa_nil)) pe_int) pa_nil))) (pa_cons (pv 2) pa_nil))))
      (pss_cons (ps_set (i := 4) sc_law.nd rfl (.inl rfl) (pe_call F5 r3 (by rfl) g5 k5 b5 .nil pass0 (pa_cons (pv 0) (pa_cons (pv 3) (pa_cons (pe_slice sl_list (pv 1) (po_some pe_int) (po_some pe_int)) (pa_cons (pv 2) pa_nil))))))
      (pss_cons (ps_if (pt_not (pt_val (pe_call F6 hr (by rfl) g6 k6 b6 .nil pass0 (pa_cons (pv 3) (pa_cons (pv 4) (pa_cons (pe_cmpR op_lt (pe_callB call_len_str (by rfl) T.len PySem.boot_len (pa_cons (pv 3) pa_nil)) pe_int (nomark _)) pa_nil)))))) pss_never pss_nil)
      (pss_cons (ps_set (i := 5) sc_law.nd rfl (.inl rfl) (pe_call F4 r1 (by rfl) g4 k4 b4 .nil pass0 (pa_cons (pe_call F2 r1 (by rfl) g2 k2 b2 .nil pass0 (pa_cons (pe_op op_add (pe_call F1 r1 (by rfl) g1 k1 b1 .nil pass0 (pa_cons (pv 0) (pa_cons pe_int pa_nil))) pe_int)
          (pa_cons (pe_op op_add pe_int (pe_op op_modN (pe_callTy call_int1 (by rfl) T.int boot_int (pa_cons (pe_ix ix_list (pv 1) pe_int (fun _ _ => rfl)) pa_nil)) pe_int)) pa_nil))) (pa_cons (pv 2) pa_nil))))
      (pss_cons (ps_set (i := 6) sc_law.nd rfl (.inl rfl) (pe_call F7 r2 (by rfl) g7 k7 b7 .nil pass0 (pa_cons (pv 5) (pa_cons (pe_op op_add (pe_call F1 r1 (by rfl) g1 k1 b1 .nil pass0 (pa_cons (pv 0) (pa_cons pe_int pa_nil))) pe_int)
          (pa_cons (pe_op op_add pe_int (pe_op op_modN (pe_callTy call_int1 (by rfl) T.int boot_int (pa_cons (pe_ix ix_list (pv 1) pe_int (fun _ _ => rfl)) pa_nil)) pe_int)) (pa_cons (pe_lst (pa_cons pe_int (pa_cons (pe_ix ix_list (pv 1) pe_int (fun _ _ => rfl)) pa_nil))) pa_nil))))))
      (pss_cons (ps_if (pt_not (pt_val (pe_call F6 hr (by rfl) g6 k6 b6 .nil pass0 (pa_cons (pv 5) (pa_cons (pv 6) (pa_cons (pe_cmpR op_eq (pe_op op_modN (pe_callTy call_int1 (by rfl) T.int boot_int (pa_cons (pe_ix ix_list (pv 1) pe_int (fun _ _ => rfl)) pa_nil)) pe_int) pe_int (nomark _)) pa_nil)))))) pss_never pss_nil)
      (pss_cons (ps_set (i := 7) sc_law.nd rfl (.inl rfl) (pe_call F4 r1 (by rfl) g4 k4 b4 .nil pass0 (pa_cons (pe_call F2 r1 (by rfl) g2 k2 b2 .nil pass0 (pa_cons (pe_op op_add (pe_call F1 r1 (by rfl) g1 k1 b1 .nil pass0 (pa_cons (pv 0) (pa_cons pe_int pa_nil))) pe_int)
          (pa_cons (pe_op op_add pe_int (pe_op op_modN (pe_callTy call_int1 (by rfl) T.int boot_int (pa_cons (pe_ix ix_list (pv 1) pe_int (fun _ _ => rfl)) pa_nil)) pe_int)) pa_nil))) (pa_cons (pv 2) pa_nil))))
      (pss_cons (ps_if (PW.pt (pw_or (pt_not (pt_val (pe_call F8 hr (by rfl) g8 k8 b8 .nil pass0 (pa_cons (pv 3) (pa_cons (pv 7) pa_nil))))) (pw_or1 (pt_not (pt_val (pe_call F8 hr (by rfl) g8 k8 b8 .nil pass0 (pa_cons (pv 5) (pa_cons (pv 7) pa_nil)))))))) pss_never pss_nil)
      (pss_one (ps_ret (pe_call F9 r3 (by rfl) g9 k9 b9 .nil pass0 (pa_cons (pe_call F10 r5 (by rfl) g10 k10 b10 .nil pass0 (pa_cons pe_int (pa_cons (pv 3) (pa_cons (pv 4) pa_nil)))) (pa_cons (pe_call F11 r2 (by rfl) g11 k11 b11 .nil pass0 (pa_cons (pv 3) (pa_cons (pv 4) (pa_cons pe_bl pa_nil)))) pa_nil)))))))))))))), ?_⟩
    refine ⟨_, rfl, a, ns, 0, rfl, hN, by decide, fun c0 => ?_⟩
    refine ⟨c0, 20, rfl, by decide, fun H1 dr ds sm1 nd hd l1 dd => ?_⟩
    have hS : SqL K H1 dr (ds.map V.int) := SqL.of hd
    have get : ∀ i : Nat, i < 20 → ∃ d, (ds.map V.int)[i]? = some (.int d) := fun i hi => by
      obtain ⟨d, _, h⟩ := int_get (ds := ds) (i := i) (by omega)
      exact ⟨d, h⟩
    obtain ⟨d0, v0⟩ := get 0 (by decide)
    obtain ⟨d1, v1⟩ := get 1 (by decide)
    obtain ⟨d2, v2⟩ := get 2 (by decide)
    obtain ⟨d9, v9⟩ := get 9 (by decide)
    obtain ⟨d10, v10⟩ := get 10 (by decide)
    obtain ⟨d11, v11⟩ := get 11 (by decide)
    obtain ⟨d12, v12⟩ := get 12 (by decide)
    obtain ⟨d13, v13⟩ := get 13 (by decide)
    obtain ⟨j2, e2, hj2⟩ := fmod_nat (d := d2) (n := 6) (by decide)
    obtain ⟨j9, e9, hj9⟩ := fmod_nat (d := d9) (n := 3) (by decide)
    obtain ⟨j10, e10, hj10⟩ := fmod_nat (d := d10) (n := 3) (by decide)
    obtain ⟨j13, e13, hj13⟩ := fmod_nat (d := d13) (n := 12) (by decide)
    -- the alphabet
    refine ⟨_, rfl, dr, _, _, .int d0, rfl, rfl, hS, at_of (j := 0) rfl v0, _, rfl, dr, _, _, .int d1, rfl, rfl, hS, at_of (j := 1) rfl v1, _, _, rfl, rfl, .inl ⟨by decide, by decide⟩, _, _, rfl, rfl, _, rfl, fun H2 z sm2 z1 z4 zk => ?_⟩
    have hS2 := sm2.seq hS
    have hN2 := (sm1.trans sm2).seq hN
    -- the text
    refine ⟨_, rfl, a, ns, 1, rfl, hN2, by decide, fun c1 => ?_⟩
    refine ⟨_, rfl, dr, _, _, .int d2, rfl, rfl, hS2, at_of (j := 2) rfl v2, .inl ⟨_, rfl, _, _, rfl, rfl, (by show (6 : Int) ≠ 0; decide), c1, j2, by rw [← e2]; rfl, by omega, fun H3 p3 ds3 sm3 np3 hp3 l3 _ => ?_⟩⟩
    refine ⟨_, rfl, p3, z, ds3, rfl, SqL.of hp3, by omega, z1, z4, zk, fun H4 t sm4 tl tk => ?_⟩
    have t5 : t.length ≤ 5 := by omega
    have smB := sm3.trans sm4
    have hS4 := smB.seq hS2
    have hN4 := smB.seq hN2
    -- the other text
    have hcut : cutV (ds.map V.int) (some 3) (some 9) = ((ds.drop 3).take 6).map V.int := cut_ints ds 3 9 (by omega) (by decide)
    refine ⟨_, rfl, _, rfl, _, rfl, 3, rfl, 9, rfl, dr, _, rfl, hS4, fun pc npc => ⟨_, rfl, ?_⟩⟩
    have sm5 : Same H4 (upd H4 pc (.lst (cutV (ds.map V.int) (some 3) (some 9)))) := same_new npc
    have hpc : (upd H4 pc (.lst (cutV (ds.map V.int) (some 3) (some 9)))) pc = some (.lst (((ds.drop 3).take 6).map V.int)) := by
      rw [upd_same, hcut]
    refine ⟨a, ns, t, pc, (ds.drop 3).take 6, z, rfl, sm5.seq hN4, SqL.of hpc, by rw [List.length_take, List.length_drop]; omega, tk, by omega, z1, z4, zk, fun H6 o sm6 ol ok => ?_⟩
    have smC := sm5.trans sm6
    have zt : (S t).length ≤ sizeLine := by
      rw [S_len]
      exact line_ge (by omega)
    -- the answers are right
    refine ⟨_, rfl, _, rfl, _, rfl, S t, rfl, zt, _, _, rfl, rfl, ?_⟩
    refine ⟨t, o, _, rfl, by omega, ol, tk, ok, fun H7 sm7 => ⟨_, rfl, iteF ?_⟩⟩
    have smD := smC.trans sm7
    have hS7 := smD.seq hS4
    have hN7 := smD.seq hN4
    -- a larger text
    refine ⟨_, rfl, a, ns, 4, rfl, hN7, by decide, fun c4 => ⟨_, _, rfl, rfl, ?_⟩⟩
    refine ⟨_, rfl, dr, _, _, .int d9, rfl, rfl, hS7, at_of (j := 9) rfl v9, .inl ⟨_, rfl, _, _, rfl, rfl, (by show (3 : Int) ≠ 0; decide), _, _, rfl, rfl, c4 + 1, 6 + j9, ?_, by omega, fun H8 p8 ds8 sm8 np8 hp8 l8 _ => ?_⟩⟩
    · have e3 : (6 : Int) + d9.fmod 3 = ((6 + j9 : Nat) : Int) := by
        have : d9.fmod 3 = (j9 : Int) := e9
        omega
      show [V.int (c4 + 1), V.int (6 + d9.fmod 3)] = _
      rw [e3]
    refine ⟨_, rfl, p8, z, ds8, rfl, SqL.of hp8, by omega, z1, z4, zk, fun H9 g sm9 gl gk => ?_⟩
    have smE := sm8.trans sm9
    have hS9 := smE.seq hS7
    have hN9 := smE.seq hN7
    -- .. exchanged
    refine ⟨_, rfl, _, rfl, a, ns, 5, rfl, hN9, by decide, fun c5 => ⟨_, _, rfl, rfl, ?_⟩⟩
    refine ⟨_, rfl, dr, _, _, .int d10, rfl, rfl, hS9, at_of (j := 10) rfl v10, .inl ⟨_, rfl, _, _, rfl, rfl, (by show (3 : Int) ≠ 0; decide), _, _, rfl, rfl, ?_⟩⟩
    refine ⟨_, rfl, dr, _, _, .int d11, rfl, rfl, hS9, at_of (j := 11) rfl v11, line_ge (by show 2 ≤ 16777216; decide), fun pl npl => ?_⟩
    have sm10 : Same H9 (upd H9 pl (.lst [.int 1, .int d11])) := same_new npl
    refine ⟨g, c5 + 2, 1 + j10, pl, [1, d11], ?_, SqL.of upd_same, by show 2 ≤ 2; decide, gk, by omega, by omega, by omega, fun H11 m sm11 ml mk => ?_⟩
    · have e3 : (1 : Int) + d10.fmod 3 = ((1 + j10 : Nat) : Int) := by
        have : d10.fmod 3 = (j10 : Int) := e10
        omega
      show [V.str (S g), V.int (c5 + 2), V.int (1 + d10.fmod 3), V.ref pl] = _
      rw [e3]
    have smF := sm10.trans sm11
    have hS11 := smF.seq hS9
    have hN11 := smF.seq hN9
    -- its answers are right
    refine ⟨_, rfl, _, rfl, _, rfl, dr, _, _, .int d12, rfl, rfl, hS11, at_of (j := 12) rfl v12, .inl ⟨_, rfl, _, _, rfl, rfl, (by show (4 : Int) ≠ 0; decide), rfl, ?_⟩⟩
    refine ⟨g, m, _, rfl, by omega, by omega, gk, mk, fun H12 sm12 => ⟨_, rfl, iteF ?_⟩⟩
    have hS12 := sm12.seq hS11
    have hN12 := sm12.seq hN11
    -- a text that is too long
    refine ⟨_, rfl, a, ns, 6, rfl, hN12, by decide, fun c6 => ⟨_, _, rfl, rfl, ?_⟩⟩
    refine ⟨_, rfl, dr, _, _, .int d13, rfl, rfl, hS12, at_of (j := 13) rfl v13, .inl ⟨_, rfl, _, _, rfl, rfl, (by show (12 : Int) ≠ 0; decide), _, _, rfl, rfl, c6 + 3, 9 + j13, ?_, by omega, fun H13 p13 ds13 sm13 np13 hp13 l13 _ => ?_⟩⟩
    · have e3 : (9 : Int) + d13.fmod 12 = ((9 + j13 : Nat) : Int) := by
        have : d13.fmod 12 = (j13 : Int) := e13
        omega
      show [V.int (c6 + 3), V.int (9 + d13.fmod 12)] = _
      rw [e3]
    refine ⟨_, rfl, p13, z, ds13, rfl, SqL.of hp13, by omega, z1, z4, zk, fun H14 b sm14 bl bk => ?_⟩
    refine ⟨_, rfl, _, rfl, t, b, rfl, by omega, by omega, by omega, tk, bk, fun H15 sm15 => ⟨_, rfl, iteF ?_⟩⟩
    refine ⟨_, rfl, _, rfl, g, b, rfl, by omega, by omega, by omega, gk, bk, fun H16 sm16 => ⟨_, rfl, iteF ?_⟩⟩
    -- the first answer again
    refine ⟨_, rfl, _, rfl, 0, t, o, rfl, by omega, by omega, tk, ok, fun c => by omega, fun _ _ H17 r sm17 hF => ?_⟩
    refine ⟨_, rfl, _, rfl, t, o, false, rfl, by omega, by omega, tk, ok, fun H18 rD sm18 hD => ?_⟩
    exact ⟨r, rD, _, rfl, hF.mono sm18, hD, fun bs l e => lawF_small e (by omega), fun H19 _ => q H19⟩
end
end TW

set_option Elab.async false
set_option linter.all false
set_option maxRecDepth 100000
set_option maxHeartbeats 4000000
namespace TW
open PySem PySem.Spec PyProof.Rows L2
section
variable {P : Program} {w : World} {K : PySem.W.Frag} {mg : Str → Option Value} {h : Heap}
theorem at_mk {nm : Str} (st : Stmt) {f : Addr} {oc : Value} {od an : Option Addr} {osl : Array (Option Value)} {kV doc pm cdv ct : Value} (X : K.In h) (G : h.Ns mainGlobals mg) (a : PySem.W.nsIn K mainGlobals nm = some (some (.ref f)))
    (l : K.lookup f = some ⟨oc, od, .func (PySem.W.fnOf nm nm (defArgs st) (defBody st) (defScope st) .none kV doc pm an cdv ct), osl⟩)
    (c : PySem.W.codeIn K cdv nm = true) (k : PySem.W.keepIn K (.ref f) = true) : At K mg nm st := ⟨f, _, PySem.W.mg_of X G a, fun_mk l c k⟩
theorem atD_mk {nm kw : Str} (st : Stmt) {f D : Addr} {oc : Value} {od an : Option Addr} {osl : Array (Option Value)} {doc pm cdv ct : Value} (X : K.In h) (G : h.Ns mainGlobals mg) (a : PySem.W.nsIn K mainGlobals nm = some (some (.ref f)))
    (l : K.lookup f = some ⟨oc, od, .func (PySem.W.fnOf nm nm (defArgs st) (defBody st) (defScope st) .none (.ref D) doc pm an cdv ct), osl⟩)
    (c : PySem.W.codeIn K cdv nm = true) (k : PySem.W.keepIn K (.ref f) = true) (d : PySem.W.nsIn K D kw = some (some (.bool false))) : AtD K mg nm kw st :=
  ⟨f, _, PySem.W.mg_of X G a, ⟨oc, od, .none, .ref D, doc, pm, an, cdv, ct, osl, rfl, l, c, .inl ⟨rfl, rfl⟩, .inr ⟨D, rfl, fun q hq => by
    rw [List.mem_singleton.mp hq]
    exact ⟨_, d, rfl⟩⟩⟩, k⟩
theorem atM_mk {C : Addr} {m qual : Str} (st : Stmt) {f : Addr} {oc : Value} {od an : Option Addr} {osl : Array (Option Value)} {kV doc pm cdv ct : Value} (a : PySem.W.findIn K (.ref C) m = some (some (.ref f))) (i : PySem.W.isFn K (.ref f) = true) (n : PySem.W.fnIn K f = true)
    (l : K.lookup f = some ⟨oc, od, .func (PySem.W.fnOf m qual (defArgs st) (defBody st) (defScope st) .none kV doc pm an cdv ct), osl⟩)
    (c : PySem.W.codeIn K cdv qual = true) (k : PySem.W.keepIn K (.ref f) = true) : AtM K C m qual st := ⟨f, _, a, i, n, fun_mk l c k⟩
theorem kit_mk {C D : Addr} {b : Bool} (h1 : PySem.W.isClsIn K D = true) (h2 : PySem.W.typeIn K (.ref D) = some (.type "type")) (h3 : PySem.W.subIn K (.ref C) (.ref D) = some b) (h4 : (Value.ref C == Value.ref D) = false) : PySem.W.kitOne K (.ref C) (.ref D) = some b := by
  have e2 : ((PySem.W.clsIn K D).isSome && PySem.W.typeIn K (.ref D) == some (.type "type")) = true := by
    have h1' : (PySem.W.clsIn K D).isSome = true := h1
    rw [h1', h2] <;> rfl
  unfold PySem.W.kitOne
  rw [h4, if_neg Bool.false_ne_true]
  show (if ((PySem.W.clsIn K D).isSome && PySem.W.typeIn K (.ref D) == some (.type "type")) = true then PySem.W.subIn K (.ref C) (.ref D) else none) = some b
  rw [if_pos e2]
  exact h3
theorem exm_self {S : Addr} (h1 : PySem.W.subIn K (.ref S) (.type "BaseException") = some true) (h2 : PySem.W.isClsIn K S = true) (h3 : PySem.W.typeIn K (.ref S) = some (.type "type")) (h4 : PySem.W.subIn K (.ref S) (.ref S) = some true) :
    PySem.W.exmOne K (.ref S) (.ref S) = some true := by
  have e1 : (PySem.W.subIn K (.ref S) (.type "BaseException") == some true) = true := by rw [h1] <;> rfl
  have e2 : ((PySem.W.clsIn K S).isSome && PySem.W.typeIn K (.ref S) == some (.type "type")) = true := by
    have h2' : (PySem.W.clsIn K S).isSome = true := h2
    rw [h2', h3] <;> rfl
  show (if (PySem.W.subIn K (.ref S) (.type "BaseException") == some true) = true then (if ((PySem.W.clsIn K S).isSome && PySem.W.typeIn K (.ref S) == some (.type "type")) = true then PySem.W.subIn K (.ref S) (.ref S) else none) else none) = some true
  rw [if_pos e1, if_pos e2]
  exact h4
/-- Exchange -/
theorem exch_mk {C : Addr} {tk : Tok} (X : K.In h) (G : h.Ns mainGlobals mg) (g : PySem.W.nsIn K mainGlobals "Exchange" = some (some (.ref C)))
    (pg : PySem.W.plainGet K C Str.empty = true) (hd : PySem.W.hasDictIn K C = true) (po : PySem.W.plainOver K C = true) (sa : PySem.W.findIn K (.ref C) "__setattr__" = some (some (.builtin "object.__setattr__"))) (nb : PySem.W.findIn K (.ref C) "blocks" = some none)
    (mk : PySem.W.makesIn K C = true) (kp : PySem.W.keepIn K (.ref C) = true) (rd : PySem.W.readsIn K C (.type "type") = true) (ga : PySem.W.specialIn K (.ref C) "__getattribute__" = some (some (.builtin "type.__getattribute__")))
    (cv : PySem.W.findCls K (.ref C) (.type "type") "MOST" = some (.val (.int 12 tk)))
    (ha : PySem.W.findIn K (.ref C) "__class__" = some (some (.builtin "object.__class__"))) (hn : PySem.W.specialIn K (.builtin "object.__class__") "__get__" = some (some (.builtin "getset_descriptor.__get__"))) (ht : PySem.W.takesIn K (.builtin "object.__class__") = some true)
    (hm : PySem.W.mroIn K C (.type "object") = some true) (m1 : AtM K C "__init__" "Exchange.__init__" s_init) (m2 : AtM K C "rearranged" "Exchange.rearranged" s_re) (m3 : AtM K C "__call__" "Exchange.__call__" s_ex) :
    ∃ C, ExT K mg C ∧ IsT K C ∧ AtM K C "__init__" "Exchange.__init__" s_init ∧ AtM K C "rearranged" "Exchange.rearranged" s_re ∧ AtM K C "__call__" "Exchange.__call__" s_ex :=
  ⟨C, ⟨⟨pg, hd, po, sa⟩, nb, PySem.W.mg_of X G g, mk, kp, .type "type", _, ⟨rd, ga⟩, ⟨cv, ⟨tk, rfl⟩⟩⟩, ⟨ha, hn, ht, hm⟩, m1, m2, m3⟩
/-- TooLarge and the classes about it -/
theorem large_mk {C BB BX fI cc cda : Addr} (X : K.In h) (G : h.Ns mainGlobals mg) (gC : PySem.W.nsIn K mainGlobals "TooLarge" = some (some (.ref C))) (gB : PySem.W.nsIn K mainGlobals "BadBook" = some (some (.ref BB))) (gX : PySem.W.nsIn K mainGlobals "BadExchange" = some (some (.ref BX)))
    (gs : PySem.W.nsIn K mainGlobals "super" = some none)
    {nm q : Str} {N : Addr} {bs bm : List Value} {sn : List Str} {sub : List Value} {ab : Bool} {col : Option Bool} {dd : Option Addr} {k0 k1 k2 k3 k5 : Option Value}
    (lC : K.lookup C = some (excClassObj nm q C N bs bm true sn sub ab col dd k0 k1 k2 k3 k5 "ValueError.__new__"))
    {nm' q' : Str} {N' : Addr} {bs' bm' : List Value} {sn' : List Str} {sub' : List Value} {ab' : Bool} {col' : Option Bool} {dd' : Option Addr} {k0' k1' k2' k3' k5' : Option Value}
    (lB : K.lookup BB = some (excClassObj nm' q' BB N' bs' bm' true sn' sub' ab' col' dd' k0' k1' k2' k3' k5' "ValueError.__new__"))
    (vb : PySem.HandSPX.refsVE bm = true) (eb : bm = .ref BB :: bm') (fB : PySem.W.findIn K (.ref BB) "__init__" = some (some (.builtin "ValueError.__init__")))
    (sa : PySem.W.findIn K (.ref C) "__setattr__" = some (some (.builtin "object.__setattr__"))) (ga : PySem.W.findIn K (.ref C) "__getattribute__" = some (some (.builtin "BaseException.__getattribute__"))) (gg : PySem.W.findIn K (.ref C) "__getattr__" = some none)
    (nw : PySem.W.findIn K (.ref C) "what" = some none) (nl : PySem.W.findIn K (.ref C) "limit" = some none) (iC : PySem.W.findIn K (.ref C) "__init__" = some (some (.ref fI))) (tC : PySem.W.typeIn K (.ref fI) = some (.type "function"))
    (kC : PySem.W.keepIn K (.ref C) = true) (eC : PySem.W.subIn K (.ref C) (.type "BaseException") = some true) (vC : PySem.W.subIn K (.ref C) (.type "ValueError") = some true) (tyC : PySem.W.typeIn K (.ref C) = some (.type "type")) (hC : PySem.W.hasDictIn K C = true) (cC : PySem.W.isClsIn K C = true)
    (sC : PySem.W.subIn K (.ref C) (.ref C) = some true) (mC : PySem.W.mroIn K C (.ref C) = some true) (tp : PySem.W.nsIn K cStatics "thirdparty.any" = some none)
    {oc : Value} {od : Option Addr} {kV doc pm : Value} {an : Option Addr} {ct : Value} {osl : Array (Option Value)}
    (lf : K.lookup fI = some ⟨oc, od, .func (PySem.W.ksFn "__init__" "TooLarge.__init__" (L2.defArgs PySem.LargeX.sL) (L2.defBody PySem.LargeX.sL) (L2.defScope PySem.LargeX.sL) .none kV doc pm an (.ref cda) ct cc), osl⟩) (cf : PySem.W.codeIn K (.ref cda) "TooLarge.__init__" = true)
    {ccl : Value} {cdd : Option Addr} {vs : Array Value} {ccs : Array (Option Value)} {file : Str} {tf : Tok} (lc : K.lookup cda = some ⟨ccl, cdd, .fields vs, ccs⟩) (hv : vs[2]? = some (.str file tf)) (hf : ((P.main.file : Str) == file) = true)
    {cl : Value} {cld : Option Addr} {csl : Array (Option Value)} (lk : K.lookup cc = some ⟨cl, cld, .cell (some (.ref C)), csl⟩) (top : (P.main.scope.names.lookup ("super" : Str)).isSome = false)
    (ha : PySem.W.findIn K (.ref C) "__class__" = some (some (.builtin "object.__class__"))) (hn : PySem.W.specialIn K (.builtin "object.__class__") "__get__" = some (some (.builtin "getset_descriptor.__get__"))) (ht : PySem.W.takesIn K (.builtin "object.__class__") = some true)
    (hm : PySem.W.mroIn K C (.type "object") = some true) (cB : PySem.W.isClsIn K BB = true) (tB : PySem.W.typeIn K (.ref BB) = some (.type "type")) (sB : PySem.W.subIn K (.ref C) (.ref BB) = some true) (nB : (Value.ref C == Value.ref BB) = false)
    (cX : PySem.W.isClsIn K BX = true) (tX : PySem.W.typeIn K (.ref BX) = some (.type "type")) (sX : PySem.W.subIn K (.ref C) (.ref BX) = some false) (nX : (Value.ref C == Value.ref BX) = false) :
    ∃ CL fI cc cda BB BX, PySem.LargeX.LargeTxt P K mg CL fI cc cda ∧ ErrT K mg CL BB BX := by
  have su : PySem.W.ks_superIn K C C "__init__" = some (some (.builtin "ValueError.__init__")) := by
    unfold PySem.W.findIn at fB
    dsimp only at fB
    rw [lB] at fB
    have fB' : PySem.W.alongIn K "__init__" (.ref BB :: bm') = some (some (.builtin "ValueError.__init__")) := fB
    unfold PySem.W.ks_superIn PySem.W.clsIn
    rw [lC]
    show PySem.W.alongIn K "__init__" (((Value.ref C :: bm).dropWhile (· != .ref C)).drop 1) = _
    rw [PySem.ESX.drop_own, eb]
    exact fB'
  exact ⟨C, fI, cc, cda, BB, BX,
    { gC := PySem.W.mg_of X G gC, cls := ⟨nm, q, N, bs, bm, sn, sub, ab, col, dd, k0, k1, k2, k3, k5, lC, vb⟩, sa := sa, ga := ga, gg := gg, noW := nw, noL := nl, iC := iC, tC := tC, kC := kC, exC := eC, veC := vC, tyC := tyC, hdC := hC, te := exm_self eC cC tyC sC, own := mC, su := su, tp := tp,
      sup := PySem.W.mg_none_of X G gs, fn := ⟨oc, od, kV, doc, pm, an, ct, osl, lf, cf⟩, code := ⟨ccl, cdd, vs, ccs, file, tf, lc, hv, hf⟩, cell := ⟨cl, cld, csl, lk⟩, top := top },
    { gB := PySem.W.mg_of X G gB, gX := PySem.W.mg_of X G gX, dC := ⟨cC, ga, gg, eC, ha, hn, ht, hm⟩, kB := kit_mk cB tB sB nB, kX := kit_mk cX tX sX nX }⟩
theorem end_mk {f fa : Addr} {oc : Value} {od an : Option Addr} {osl : Array (Option Value)} {kV doc pm cdv ct : Value} (X : K.In h) (G : h.Ns mainGlobals mg) (hfa : mg "law" = some (.ref fa)) (a : PySem.W.nsIn K mainGlobals "law" = some (some (.ref f)))
    (l : K.lookup f = some ⟨oc, od, .func (PySem.W.fnOf "law" "law" (defArgs (topS 36)) (defBody (topS 36)) (defScope (topS 36)) .none kV doc pm an cdv ct), osl⟩)
    (c : PySem.W.codeIn K cdv "law" = true) (k : PySem.W.keepIn K (.ref f) = true) (rest : ∀ base fd, Fun K "law" "law" (topS 36) f fd → FnOk P w K mg base CX0 7 f fd ["_law_script"] (spLaw K)) :
    ∃ fd : FuncData, (∀ (s : Shared) (u : Value), BindsTo s fd ⟨[u], []⟩ [("_law_script", u)]) ∧ ∀ base : Heap, K.In base → base.Ns mainGlobals mg → FnOk P w K mg base CX0 7 fa fd ["_law_script"] (spLaw K) := by
  have e := hfa.symm.trans (PySem.W.mg_of X G a)
  cases e
  exact ⟨_, fun s u => .of_eq rfl, fun base _ _ => rest base _ (fun_mk l c k)⟩
theorem most_mk {tk : Tok} (X : K.In h) (G : h.Ns mainGlobals mg) (n : PySem.W.nsIn K mainGlobals "MOST_SIGNS" = some (some (.int 8 tk))) : ∃ tk, mg "MOST_SIGNS" = some (.int 8 tk) := ⟨tk, PySem.W.mg_of X G n⟩
/-- all that the text says, the law's promise -/
theorem all_ok {f : Addr} {fd : FuncData} {base : Heap} (T : Nm mg) (E : ∃ C, ExT K mg C ∧ IsT K C ∧ AtM K C "__init__" "Exchange.__init__" s_init ∧ AtM K C "rearranged" "Exchange.rearranged" s_re ∧ AtM K C "__call__" "Exchange.__call__" s_ex)
    (L : ∃ CL fI cc cda BB BX, PySem.LargeX.LargeTxt P K mg CL fI cc cda ∧ ErrT K mg CL BB BX) (M : ∃ tk, mg "MOST_SIGNS" = some (.int 8 tk))
    (A9 : At K mg "cuttings" (topS 9)) (A10 : At K mg "pieces_of" (topS 10)) (A11 : At K mg "leads" (topS 11)) (A14 : At K mg "may_follow" (topS 14)) (A15 : AtD K mg "lean_orders" "turned" (topS 15)) (A16 : At K mg "check_sizes" (topS 16)) (A17 : AtD K mg "fewest" "turned" (topS 17))
    (A19 : At K mg "_law_cell" (topS 19)) (A20 : At K mg "_law_draws" (topS 20)) (A21 : At K mg "_law_letters" (topS 21)) (A22 : At K mg "_law_same" (topS 22)) (A23 : At K mg "_law_text" (topS 23)) (A24 : At K mg "_law_blocks" (topS 24)) (A25 : At K mg "_law_moved" (topS 25)) (A26 : At K mg "_law_cut" (topS 26))
    (A27 : At K mg "_law_cuttings" (topS 27)) (A28 : At K mg "_law_orders" (topS 28)) (A29 : At K mg "_law_first" (topS 29)) (A30 : At K mg "_law_told" (topS 30)) (A31 : At K mg "_law_right" (topS 31)) (A32 : At K mg "_law_good_answers" (topS 32)) (A33 : At K mg "_law_exchanged" (topS 33))
    (A34 : At K mg "_law_drawn_other" (topS 34)) (A35 : At K mg "_law_good_refusals" (topS 35)) (F : Fun K "law" "law" (topS 36) f fd) : FnOk P w K mg base CX0 7 f fd ["_law_script"] (spLaw K) := by
  obtain ⟨C, X, I, M1, M2, M3⟩ := E
  obtain ⟨CL, fI, cc, cda, BB, BX, TL, ET⟩ := L
  have g19 := ok_cell (P := P) (w := w) (base := base) A19 T
  have g20 := ok_draws (P := P) (w := w) (base := base) A20 T
  have g21 := ok_letters (P := P) (w := w) (base := base) A21 T
  have g22 := ok_sameT (P := P) (w := w) (base := base) A22 T
  have g23 := ok_text (P := P) (w := w) (base := base) A23 T
  have g24 := ok_blocks (P := P) (w := w) (base := base) A24 T
  have g25 := ok_moved (P := P) (w := w) (base := base) A25 T
  have g26 := ok_cut (P := P) (w := w) (base := base) A26 T
  have g27 := ok_lcuts (P := P) (w := w) (base := base) A27 T
  have g28 := ok_lorders (P := P) (w := w) (base := base) A28 T
  have g9 := ok_cuts (P := P) (w := w) (base := base) A9 T
  have g10 := ok_pieces (P := P) (w := w) (base := base) A10 T
  have g14 := ok_may (P := P) (w := w) (base := base) A14 T
  have g15 := ok_lean A15 T g14
  have g16 := ok_check (w := w) (base := base) A16 TL T M
  have gI := ok_init (P := P) (w := w) (base := base) M1 X T
  have gR := ok_re (P := P) (w := w) (base := base) M2 X T
  have gE := ok_ex M3 X T gR
  have g11 := ok_leads A11 X T g9 g10 gE
  have g17 := ok_few A17 X T g16 g15 gI g11
  have g29 := ok_first A29 T g28 g27 g26 g25
  have g30 := ok_told A30 TL ET T g17
  have g31 := ok_right A31 X I T g22
  have g32 := ok_good A32 T g29 g30 g31
  have g33 := ok_exch A33 T g27 g20 g24 g26 g25
  have g34 := ok_other A34 T g19 g20 g23 g33
  have g35 := ok_ref A35 T g30
  exact ok_law F T g19 g20 g21 g23 g34 g32 g33 g35 g31 g30 g29
end
end TW

section
open PySem PySem.W PyProof.Rows
set_option maxRecDepth 100000 in
set_option maxHeartbeats 0 in
theorem PySem.Challenge.cw_twiceeach_k44_whole_fewest_pieces_holds : PySem.Challenge.rw_twiceeach_k44_whole_fewest_pieces.Holds :=
  TW_head (by
  k_fill
  refine L2.walk_of (l := PySem.Challenge.rw_twiceeach_k44_whole_fewest_pieces) (n := 63) (k := 7) (x := "_law_script") (CX := fun _ => L2.CX0) (sp := fun w => TW.spLaw _) rfl (by decide) rfl ⟨rfl, by decide, by decide⟩ (fun w h Y => PySem.W.kIn_of Y) ?F (fun _ _ a ns hl _ hS => ⟨a, ns, rfl, hS, hl, fun _ => rfl⟩) (fun _ _ _ _ _ h => h)
  case F =>
    intro w mg fa h KX G hmg
    have T : TW.Nm mg := by
      refine' ⟨PySem.W.mg_none_of KX G ?n0, PySem.W.mg_none_of KX G ?n1, PySem.W.mg_none_of KX G ?n2, PySem.W.mg_none_of KX G ?n3, PySem.W.mg_none_of KX G ?n4, PySem.W.mg_none_of KX G ?n5, PySem.W.mg_none_of KX G ?n6, PySem.W.mg_none_of KX G ?n7, PySem.W.mg_none_of KX G ?n8, PySem.W.mg_none_of KX G ?n9, PySem.W.mg_none_of KX G ?n10, PySem.W.mg_none_of KX G ?n11, PySem.W.mg_none_of KX G ?n12, PySem.W.mg_none_of KX G ?n13⟩
      (case n0 => k_is)
      (case n1 => k_is)
      (case n2 => k_is)
      (case n3 => k_is)
      (case n4 => k_is)
      (case n5 => k_is)
      (case n6 => k_is)
      (case n7 => k_is)
      (case n8 => k_is)
      (case n9 => k_is)
      (case n10 => k_is)
      (case n11 => k_is)
      (case n12 => k_is)
      (case n13 => k_is)
    have M : ∃ tk, mg "MOST_SIGNS" = some (.int 8 tk) := by
      refine' TW.most_mk KX G ?n
      (case n => k_is)
    have A9 : TW.At (L2.KOf KX) mg "cuttings" (TW.topS 9) := by
      unfold L2.KOf
      refine' TW.at_mk (TW.topS 9) KX G ?a ?l ?c ?k
      (case a => k_is); (case l => k_is); (case c => k_is); (case k => k_is)
    have A10 : TW.At (L2.KOf KX) mg "pieces_of" (TW.topS 10) := by
      unfold L2.KOf
      refine' TW.at_mk (TW.topS 10) KX G ?a ?l ?c ?k
      (case a => k_is); (case l => k_is); (case c => k_is); (case k => k_is)
    have A11 : TW.At (L2.KOf KX) mg "leads" (TW.topS 11) := by
      unfold L2.KOf
      refine' TW.at_mk (TW.topS 11) KX G ?a ?l ?c ?k
      (case a => k_is); (case l => k_is); (case c => k_is); (case k => k_is)
    have A14 : TW.At (L2.KOf KX) mg "may_follow" (TW.topS 14) := by
      unfold L2.KOf
      refine' TW.at_mk (TW.topS 14) KX G ?a ?l ?c ?k
      (case a => k_is); (case l => k_is); (case c => k_is); (case k => k_is)
    have A16 : TW.At (L2.KOf KX) mg "check_sizes" (TW.topS 16) := by
      unfold L2.KOf
      refine' TW.at_mk (TW.topS 16) KX G ?a ?l ?c ?k
      (case a => k_is); (case l => k_is); (case c => k_is); (case k => k_is)
    have A19 : TW.At (L2.KOf KX) mg "_law_cell" (TW.topS 19) := by
      unfold L2.KOf
      refine' TW.at_mk (TW.topS 19) KX G ?a ?l ?c ?k
      (case a => k_is); (case l => k_is); (case c => k_is); (case k => k_is)
    have A20 : TW.At (L2.KOf KX) mg "_law_draws" (TW.topS 20) := by
      unfold L2.KOf
      refine' TW.at_mk (TW.topS 20) KX G ?a ?l ?c ?k
      (case a => k_is); (case l => k_is); (case c => k_is); (case k => k_is)
    have A21 : TW.At (L2.KOf KX) mg "_law_letters" (TW.topS 21) := by
      unfold L2.KOf
      refine' TW.at_mk (TW.topS 21) KX G ?a ?l ?c ?k
      (case a => k_is); (case l => k_is); (case c => k_is); (case k => k_is)
    have A22 : TW.At (L2.KOf KX) mg "_law_same" (TW.topS 22) := by
      unfold L2.KOf
      refine' TW.at_mk (TW.topS 22) KX G ?a ?l ?c ?k
      (case a => k_is); (case l => k_is); (case c => k_is); (case k => k_is)
    have A23 : TW.At (L2.KOf KX) mg "_law_text" (TW.topS 23) := by
      unfold L2.KOf
      refine' TW.at_mk (TW.topS 23) KX G ?a ?l ?c ?k
      (case a => k_is); (case l => k_is); (case c => k_is); (case k => k_is)
    have A24 : TW.At (L2.KOf KX) mg "_law_blocks" (TW.topS 24) := by
      unfold L2.KOf
      refine' TW.at_mk (TW.topS 24) KX G ?a ?l ?c ?k
      (case a => k_is); (case l => k_is); (case c => k_is); (case k => k_is)
    have A25 : TW.At (L2.KOf KX) mg "_law_moved" (TW.topS 25) := by
      unfold L2.KOf
      refine' TW.at_mk (TW.topS 25) KX G ?a ?l ?c ?k
      (case a => k_is); (case l => k_is); (case c => k_is); (case k => k_is)
    have A26 : TW.At (L2.KOf KX) mg "_law_cut" (TW.topS 26) := by
      unfold L2.KOf
      refine' TW.at_mk (TW.topS 26) KX G ?a ?l ?c ?k
      (case a => k_is); (case l => k_is); (case c => k_is); (case k => k_is)
    have A27 : TW.At (L2.KOf KX) mg "_law_cuttings" (TW.topS 27) := by
      unfold L2.KOf
      refine' TW.at_mk (TW.topS 27) KX G ?a ?l ?c ?k
      (case a => k_is); (case l => k_is); (case c => k_is); (case k => k_is)
    have A28 : TW.At (L2.KOf KX) mg "_law_orders" (TW.topS 28) := by
      unfold L2.KOf
      refine' TW.at_mk (TW.topS 28) KX G ?a ?l ?c ?k
      (case a => k_is); (case l => k_is); (case c => k_is); (case k => k_is)
    have A29 : TW.At (L2.KOf KX) mg "_law_first" (TW.topS 29) := by
      unfold L2.KOf
      refine' TW.at_mk (TW.topS 29) KX G ?a ?l ?c ?k
      (case a => k_is); (case l => k_is); (case c => k_is); (case k => k_is)
    have A30 : TW.At (L2.KOf KX) mg "_law_told" (TW.topS 30) := by
      unfold L2.KOf
      refine' TW.at_mk (TW.topS 30) KX G ?a ?l ?c ?k
      (case a => k_is); (case l => k_is); (case c => k_is); (case k => k_is)
    have A31 : TW.At (L2.KOf KX) mg "_law_right" (TW.topS 31) := by
      unfold L2.KOf
      refine' TW.at_mk (TW.topS 31) KX G ?a ?l ?c ?k
      (case a => k_is); (case l => k_is); (case c => k_is); (case k => k_is)
    have A32 : TW.At (L2.KOf KX) mg "_law_good_answers" (TW.topS 32) := by
      unfold L2.KOf
      refine' TW.at_mk (TW.topS 32) KX G ?a ?l ?c ?k
      (case a => k_is); (case l => k_is); (case c => k_is); (case k => k_is)
    have A33 : TW.At (L2.KOf KX) mg "_law_exchanged" (TW.topS 33) := by
      unfold L2.KOf
      refine' TW.at_mk (TW.topS 33) KX G ?a ?l ?c ?k
      (case a => k_is); (case l => k_is); (case c => k_is); (case k => k_is)
    have A34 : TW.At (L2.KOf KX) mg "_law_drawn_other" (TW.topS 34) := by
      unfold L2.KOf
      refine' TW.at_mk (TW.topS 34) KX G ?a ?l ?c ?k
      (case a => k_is); (case l => k_is); (case c => k_is); (case k => k_is)
    have A35 : TW.At (L2.KOf KX) mg "_law_good_refusals" (TW.topS 35) := by
      unfold L2.KOf
      refine' TW.at_mk (TW.topS 35) KX G ?a ?l ?c ?k
      (case a => k_is); (case l => k_is); (case c => k_is); (case k => k_is)
    have A15 : TW.AtD (L2.KOf KX) mg "lean_orders" "turned" (TW.topS 15) := by
      unfold L2.KOf
      refine' TW.atD_mk (TW.topS 15) KX G ?a ?l ?c ?k ?d
      (case a => k_is); (case l => k_is); (case c => k_is); (case k => k_is); (case d => k_is)
    have A17 : TW.AtD (L2.KOf KX) mg "fewest" "turned" (TW.topS 17) := by
      unfold L2.KOf
      refine' TW.atD_mk (TW.topS 17) KX G ?a ?l ?c ?k ?d
      (case a => k_is); (case l => k_is); (case c => k_is); (case k => k_is); (case d => k_is)
    have E : ∃ C, TW.ExT (L2.KOf KX) mg C ∧ TW.IsT (L2.KOf KX) C ∧ TW.AtM (L2.KOf KX) C "__init__" "Exchange.__init__" TW.s_init ∧ TW.AtM (L2.KOf KX) C "rearranged" "Exchange.rearranged" TW.s_re ∧ TW.AtM (L2.KOf KX) C "__call__" "Exchange.__call__" TW.s_ex := by
      unfold L2.KOf
      refine' TW.exch_mk KX G ?g ?pg ?hd ?po ?sa ?nb ?mk ?kp ?rd ?ga ?cv ?ha ?hn ?ht ?hm (TW.atM_mk TW.s_init ?a1 ?i1 ?n1 ?l1 ?c1 ?k1) (TW.atM_mk TW.s_re ?a2 ?i2 ?n2 ?l2 ?c2 ?k2) (TW.atM_mk TW.s_ex ?a3 ?i3 ?n3 ?l3 ?c3 ?k3)
      (case g => k_is)
      (case pg => k_is)
      (case hd => k_is)
      (case po => k_is)
      (case sa => k_is)
      (case nb => k_is)
      (case mk => k_is)
      (case kp => k_is)
      (case rd => k_is)
      (case ga => k_is)
      (case cv => k_is)
      (case ha => k_is)
      (case hn => k_is)
      (case ht => k_is)
      (case hm => k_is)
      (case a1 => k_is)
      (case i1 => k_is)
      (case n1 => k_is)
      (case l1 => k_is)
      (case c1 => k_is)
      (case k1 => k_is)
      (case a2 => k_is)
      (case i2 => k_is)
      (case n2 => k_is)
      (case l2 => k_is)
      (case c2 => k_is)
      (case k2 => k_is)
      (case a3 => k_is)
      (case i3 => k_is)
      (case n3 => k_is)
      (case l3 => k_is)
      (case c3 => k_is)
      (case k3 => k_is)
    have L : ∃ CL fI cc cda BB BX, PySem.LargeX.LargeTxt PySem.Challenge.rw_twiceeach_k44_whole_fewest_pieces.prog (L2.KOf KX) mg CL fI cc cda ∧ TW.ErrT (L2.KOf KX) mg CL BB BX := by
      unfold L2.KOf
      refine' TW.large_mk KX G ?gC ?gB ?gX ?gs ?lC ?lB ?vb ?eb ?fB ?sa ?ga ?gg ?nw ?nl ?iC ?tC ?kC ?eC ?vC ?tyC ?hC ?cC ?sC ?mC ?tp ?lf ?cf ?lc ?hv ?hf ?lk ?top ?ha ?hn ?ht ?hm ?cB ?tB ?sB ?nB ?cX ?tX ?sX ?nX
      (case gC => k_is)
      (case gB => k_is)
      (case gX => k_is)
      (case gs => k_is)
      (case lC => k_is)
      (case lB => k_is)
      (case vb => decide +kernel)
      (case eb => rfl)
      (case fB => k_is)
      (case sa => k_is)
      (case ga => k_is)
      (case gg => k_is)
      (case nw => k_is)
      (case nl => k_is)
      (case iC => k_is)
      (case tC => k_is)
      (case kC => k_is)
      (case eC => k_is)
      (case vC => k_is)
      (case tyC => k_is)
      (case hC => k_is)
      (case cC => k_is)
      (case sC => k_is)
      (case mC => k_is)
      (case tp => k_is)
      (case lf => k_is)
      (case cf => k_is)
      (case lc => k_is)
      (case hv => rfl)
      (case hf => decide +kernel)
      (case lk => k_is)
      (case top => decide +kernel)
      (case ha => k_is)
      (case hn => k_is)
      (case ht => k_is)
      (case hm => k_is)
      (case cB => k_is)
      (case tB => k_is)
      (case sB => k_is)
      (case nB => decide +kernel)
      (case cX => k_is)
      (case tX => k_is)
      (case sX => k_is)
      (case nX => decide +kernel)
    refine' TW.end_mk KX G hmg ?a ?l ?c ?k ?r
    (case a => k_is); (case l => k_is); (case c => k_is); (case k => k_is)
    case r =>
      intro base fd F
      exact TW.all_ok T E L M A9 A10 A11 A14 A15 A16 A17 A19 A20 A21 A22 A23 A24 A25 A26 A27 A28 A29 A30 A31 A32 A33 A34 A35 F)
end
