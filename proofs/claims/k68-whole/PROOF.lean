import PyProof.Rows.All
import Wide.All
import OpenK.AllK
import Wide.FinOn
import HandS.ForMost
import KE.KTupSum
import KE.DataMinMax
import KE.GoesMore
import KE.GoesEnum
import HandS.EndBits
import HandS.FStr
import HandS.IsInst
import HandS.OwnEq
import HandS.Property
import HandS.Style
import HandS.TupAny
import HandS.TupMul
import HandS.Wide
import HandS.WideBits
import HandS.Conv
import HandS.Codes
import PySem.Challenge.RW_toldcounts_k68_whole_counts_by_trying
set_option Elab.async false
set_option linter.all false
set_option maxRecDepth 100000
set_option maxHeartbeats 4000000
set_option exponentiation.threshold 4000
namespace K68
def near (u c p : Int) : Int := (2 * u * c + p) / (2 * p)
def lo (s p u : Int) : Int := if s > 0 then -(((1 - 2 * s) * p) / (2 * u)) else 0
def top (s p u : Int) : Int := ((2 * s + 1) * p - 1) / (2 * u)
def hi (s p u : Int) : Int := if top s p u < p then top s p u else p

theorem near_two {u c p s : Int} (hp : 0 < p) : near u c p = s ↔ s * (2 * p) ≤ 2 * u * c + p ∧ 2 * u * c + p < (s + 1) * (2 * p) := by
  unfold near
  have h2 : 0 < 2 * p := by omega
  rw [← Int.le_ediv_iff_mul_le h2, ← Int.ediv_lt_iff_lt_mul h2]
  omega
theorem lo_nn {s p u : Int} (hu : 0 < u) (hp : 0 < p) : 0 ≤ lo s p u := by
  unfold lo
  by_cases h : s > 0
  · rw [if_pos h]
    have h1 : (1 - 2 * s) * p ≤ 0 := by
      have := Int.mul_nonneg (a := 2 * s - 1) (b := p) (by omega) (by omega)
      grind
    have h2 : ((1 - 2 * s) * p) / (2 * u) ≤ 0 := by
      have := Int.ediv_le_ediv (a := (1 - 2 * s) * p) (b := 0) (c := 2 * u) (by omega) h1
      simpa using this
    omega
  · rw [if_neg h]
    omega
theorem lo_le {s p u c : Int} (hu : 0 < u) (hp : 0 < p) (hs : 0 ≤ s) (hc : 0 ≤ c) : lo s p u ≤ c ↔ s * (2 * p) ≤ 2 * u * c + p := by
  unfold lo
  by_cases h : s > 0
  · rw [if_pos h]
    have h2 : 0 < 2 * u := by omega
    have e : -(((1 - 2 * s) * p) / (2 * u)) ≤ c ↔ -c ≤ ((1 - 2 * s) * p) / (2 * u) := by omega
    rw [e, Int.le_ediv_iff_mul_le h2]
    constructor <;> intro q <;> grind
  · rw [if_neg h]
    have e : s = 0 := by omega
    subst e
    have := Int.mul_nonneg (a := u) (b := c) (by omega) hc
    constructor
    · intro _
      grind
    · intro _
      exact hc
theorem hi_ge {s p u c : Int} (hu : 0 < u) (hcp : c ≤ p) : c ≤ hi s p u ↔ 2 * u * c + p < (s + 1) * (2 * p) := by
  unfold hi
  have h2 : 0 < 2 * u := by omega
  have e1 : c ≤ top s p u ↔ 2 * u * c + p < (s + 1) * (2 * p) := by
    unfold top
    rw [Int.le_ediv_iff_mul_le h2]
    constructor <;> intro q <;> grind
  rw [← e1]
  split <;> omega
theorem near_iff {u c p s : Int} (hu : 0 < u) (hp : 0 < p) (hs : 0 ≤ s) (hc : 0 ≤ c) (hcp : c ≤ p) : near u c p = s ↔ lo s p u ≤ c ∧ c ≤ hi s p u := by
  rw [near_two hp, lo_le hu hp hs hc, hi_ge hu hcp]
theorem hi_le {s p u : Int} : hi s p u ≤ p := by
  unfold hi
  split <;> omega
theorem near_nn {u c p : Int} (hu : 0 < u) (hp : 0 < p) (hc : 0 ≤ c) : 0 ≤ near u c p := by
  unfold near
  have := Int.mul_nonneg (a := 2 * u) (b := c) (by omega) hc
  exact Int.ediv_nonneg (by omega) (by omega)
theorem near_le {u c p : Int} (hu : 0 < u) (hp : 0 < p) (hcp : c ≤ p) : near u c p ≤ u := by
  unfold near
  have h2 : 0 < 2 * p := by omega
  have h3 : u * c ≤ u * p := Int.mul_le_mul_of_nonneg_left hcp (by omega)
  have : (2 * u * c + p) / (2 * p) < u + 1 := by
    rw [Int.ediv_lt_iff_lt_mul h2]
    grind
  omega
end K68
namespace K68
/-- all that own can go on with by one more count -/
def exts (p : Int) (own : List Int) : List (List Int) := (List.range (p - own.sum + 1).toNat).map fun i : Nat => own ++ [(i : Int)]
def last1 (p : Int) (own : List Int) : List Int := own ++ [p - own.sum]
def level (p : Int) : Nat → List (List Int)
  | 0 => [[]]
  | n + 1 => (level p n).flatMap (exts p)
def tried (n : Nat) (p : Int) : List (List Int) := (level p n).map (last1 p)
def goOn (p : Int) : Nat → List Int → List (List Int)
  | 0, own => [last1 p own]
  | n + 1, own => (exts p own).flatMap (goOn p n)
theorem level_goOn (p : Int) : ∀ (n m : Nat), (level p n).flatMap (goOn p m) = goOn p (n + m) []
  | 0, m => by
    rw [Nat.zero_add]
    show [[]].flatMap (goOn p m) = _
    simp
  | n + 1, m => by
    have := level_goOn p n (m + 1)
    rw [show n + 1 + m = n + (m + 1) by omega, ← this]
    show ((level p n).flatMap (exts p)).flatMap (goOn p m) = _
    rw [List.flatMap_assoc]
    rfl
theorem tried_goOn (n : Nat) (p : Int) : tried n p = goOn p n [] := by
  have := level_goOn p n 0
  rw [Nat.add_zero] at this
  rw [← this]
  unfold tried
  rw [List.map_eq_flatMap]
  rfl

/-! the ends of the counts: pairs (least, greatest) -/
abbrev EndL := List (Int × Int)
def mins (e : EndL) : Int := (e.map (·.1)).sum
def maxs (e : EndL) : Int := (e.map (·.2)).sum
def inEnds : EndL → List Int → Bool
  | [], [] => true
  | (l, g) :: e, c :: cs => decide (l ≤ c) && decide (c ≤ g) && inEnds e cs
  | _, _ => false
def fitB (e : EndL) (p : Int) : Bool := e.all (fun x => decide (x.1 ≤ x.2)) && decide (mins e ≤ p) && decide (p ≤ maxs e)
def greedy : EndL → Int → List Int
  | [], _ => []
  | (l, _) :: e, r => (if r - maxs e > l then r - maxs e else l) :: greedy e (r - (if r - maxs e > l then r - maxs e else l))

theorem mins_nn : ∀ {e : EndL}, (∀ x ∈ e, 0 ≤ x.1) → 0 ≤ mins e
  | [], _ => by decide
  | x :: e, h => by
    have h1 := h x List.mem_cons_self
    have h2 := mins_nn (e := e) fun y hy => h y (List.mem_cons_of_mem _ hy)
    unfold mins at *
    rw [List.map_cons, List.sum_cons]
    omega
theorem mins_cons (x : Int × Int) (e : EndL) : mins (x :: e) = x.1 + mins e := by unfold mins; rw [List.map_cons, List.sum_cons]
theorem maxs_cons (x : Int × Int) (e : EndL) : maxs (x :: e) = x.2 + maxs e := by unfold maxs; rw [List.map_cons, List.sum_cons]
theorem mins_maxs : ∀ {e : EndL}, (∀ x ∈ e, x.1 ≤ x.2) → mins e ≤ maxs e
  | [], _ => by decide
  | x :: e, h => by
    have h1 := h x List.mem_cons_self
    have h2 := mins_maxs (e := e) fun y hy => h y (List.mem_cons_of_mem _ hy)
    rw [mins_cons, maxs_cons]
    omega
theorem inEnds_len : ∀ {e : EndL} {cs : List Int}, inEnds e cs = true → e.length = cs.length
  | [], [], _ => rfl
  | [], _ :: _, h => by simp [inEnds] at h
  | (_, _) :: _, [], h => by simp [inEnds] at h
  | (l, g) :: e, c :: cs, h => by
    have h2 : inEnds e cs = true := by
      unfold inEnds at h
      simp only [Bool.and_eq_true] at h
      exact h.2
    rw [List.length_cons, List.length_cons, inEnds_len h2]
theorem inEnds_app : ∀ {e1 e2 : EndL} {a b : List Int}, e1.length = a.length → inEnds (e1 ++ e2) (a ++ b) = (inEnds e1 a && inEnds e2 b)
  | [], e2, [], b, _ => by simp [inEnds]
  | [], _, _ :: _, _, h => by simp at h
  | _ :: _, _, [], _, h => by simp at h
  | (l, g) :: e1, e2, c :: a, b, h => by
    have h1 : e1.length = a.length := by simpa using h
    show (decide (l ≤ c) && decide (c ≤ g) && inEnds (e1 ++ e2) (a ++ b)) = (decide (l ≤ c) && decide (c ≤ g) && inEnds e1 a && inEnds e2 b)
    rw [inEnds_app h1]
    simp [Bool.and_assoc]
theorem goOn_pre (p : Int) : ∀ (m : Nat) (own t : List Int), t ∈ goOn p m own → ∃ b, t = own ++ b ∧ b.length = m + 1
  | 0, own, t, h => by
    unfold goOn last1 at h
    rw [List.mem_singleton] at h
    exact ⟨_, h, rfl⟩
  | m + 1, own, t, h => by
    unfold goOn exts at h
    rw [List.mem_flatMap] at h
    obtain ⟨o, ho, ht⟩ := h
    rw [List.mem_map] at ho
    obtain ⟨i, _, rfl⟩ := ho
    obtain ⟨b, rfl, hb⟩ := goOn_pre p m _ t ht
    exact ⟨(i : Int) :: b, by rw [List.append_assoc]; rfl, by rw [List.length_cons, hb]⟩
/-- the first of the numbers below n that pass, of those from i on -/
theorem head_range {α : Type} (f : Nat → List α) (n k : Nat) (a : α) (hk : k < n) (h0 : ∀ i, i < k → f i = []) (h1 : (f k).head? = some a) : ((List.range n).flatMap f).head? = some a := by
  have e : List.range n = List.range k ++ (k :: (List.range (n - k - 1)).map (· + (k + 1))) := by
    apply List.ext_getElem
    · simp
      omega
    · intro i h1 h2
      simp only [List.getElem_range]
      by_cases q : i < k
      · rw [List.getElem_append_left (by simpa using q)]
        simp
      · rw [List.getElem_append_right (by simpa using q)]
        simp only [List.length_range]
        by_cases q2 : i = k
        · subst q2
          simp
        · obtain ⟨j, hj⟩ : ∃ j, i - k = j + 1 := ⟨i - k - 1, by omega⟩
          simp only [hj, List.getElem_cons_succ, List.getElem_map, List.getElem_range]
          omega
  have z : (List.range k).flatMap f = [] := by
    rw [List.flatMap_eq_nil_iff]
    intro i hi
    exact h0 i (List.mem_range.mp hi)
  rw [e, List.flatMap_append, z, List.nil_append, List.flatMap_cons, List.head?_append, h1]
  rfl
theorem head_none {α : Type} (f : Nat → List α) (n : Nat) (h0 : ∀ i, i < n → f i = []) : ((List.range n).flatMap f).head? = none := by
  have z : (List.range n).flatMap f = [] := by
    rw [List.flatMap_eq_nil_iff]
    intro i hi
    exact h0 i (List.mem_range.mp hi)
  rw [z]
  rfl
theorem filter_none_of_pre {p : Int} {e : EndL} {m : Nat} {own : List Int} {e1 e2 : EndL} (he : e = e1 ++ e2) (hl : e1.length = own.length) (hb : inEnds e1 own = false) : (goOn p m own).filter (inEnds e) = [] := by
  rw [List.filter_eq_nil_iff]
  intro t ht
  obtain ⟨b, rfl, _⟩ := goOn_pre p m own t ht
  rw [he, inEnds_app hl, hb]
  simp
theorem sum_app1 (own : List Int) (x : Int) : (own ++ [x]).sum = own.sum + x := by
  induction own with
  | nil => simp
  | cons y r ih => rw [List.cons_append, List.sum_cons, List.sum_cons, ih]; omega
theorem fit_cons (l g : Int) (e : EndL) (r : Int) : fitB ((l, g) :: e) r = true ↔ l ≤ g ∧ (∀ x ∈ e, x.1 ≤ x.2) ∧ l + mins e ≤ r ∧ r ≤ g + maxs e := by
  unfold fitB
  rw [mins_cons, maxs_cons]
  simp only [List.all_cons, Bool.and_eq_true, decide_eq_true_eq, List.all_eq_true]
  constructor
  · rintro ⟨⟨⟨a, b⟩, c⟩, d⟩
    exact ⟨a, b, c, d⟩
  · rintro ⟨a, b, c, d⟩
    exact ⟨⟨⟨a, b⟩, c⟩, d⟩
theorem fit_iff (e : EndL) (r : Int) : fitB e r = true ↔ (∀ x ∈ e, x.1 ≤ x.2) ∧ mins e ≤ r ∧ r ≤ maxs e := by
  unfold fitB
  simp only [Bool.and_eq_true, decide_eq_true_eq, List.all_eq_true]
  constructor
  · rintro ⟨⟨b, c⟩, d⟩
    exact ⟨b, c, d⟩
  · rintro ⟨b, c, d⟩
    exact ⟨⟨b, c⟩, d⟩
/-- the first of all that go on with own and lie in the ends -/
theorem first_goOn (p : Int) (e : EndL) : ∀ (m : Nat) (own : List Int) (e1 e2 : EndL), e = e1 ++ e2 → e1.length = own.length → inEnds e1 own = true → e2.length = m + 1 → (∀ x ∈ e2, 0 ≤ x.1) → own.sum ≤ p →
    ((goOn p m own).filter (inEnds e)).head? = if fitB e2 (p - own.sum) = true then some (own ++ greedy e2 (p - own.sum)) else none
  | 0, own, e1, e2, he, hl, hb, h2, h0, hs => by
    obtain ⟨⟨l, g⟩, rfl⟩ : ∃ x, e2 = [x] := by
      match e2, h2 with
      | [x], _ => exact ⟨x, rfl⟩
    have h0' : 0 ≤ l := h0 (l, g) List.mem_cons_self
    have hi : inEnds e (last1 p own) = (decide (l ≤ p - own.sum) && decide (p - own.sum ≤ g)) := by
      unfold last1
      rw [he, inEnds_app hl, hb]
      simp [inEnds]
    have hm : maxs [] = 0 := rfl
    have hn : mins [] = 0 := rfl
    show (([last1 p own]).filter (inEnds e)).head? = _
    by_cases q : l ≤ p - own.sum ∧ p - own.sum ≤ g
    · have hf : fitB [(l, g)] (p - own.sum) = true := by
        rw [fit_cons, hm, hn]
        exact ⟨by omega, by simp, by omega, by omega⟩
      rw [if_pos hf, List.filter_cons, hi, if_pos (by simp [q.1, q.2])]
      show some (last1 p own) = _
      have hx : (if p - own.sum - 0 > l then p - own.sum - 0 else l) = p - own.sum := by
        split <;> omega
      unfold last1 greedy greedy
      rw [hm, hx]
    · have hf : ¬ fitB [(l, g)] (p - own.sum) = true := by
        rw [fit_cons, hm, hn]
        rintro ⟨_, _, a, b⟩
        exact q ⟨by omega, by omega⟩
      rw [if_neg hf, List.filter_cons, hi, if_neg (by simpa using fun a => by omega)]
      rfl
  | m + 1, own, e1, e2, he, hl, hb, h2, h0, hs => by
    obtain ⟨⟨l, g⟩, e3, rfl⟩ : ∃ x r, e2 = x :: r := by
      match e2, h2 with
      | x :: r, _ => exact ⟨x, r, rfl⟩
    have h0' : 0 ≤ l := h0 (l, g) List.mem_cons_self
    have h3 : ∀ x ∈ e3, 0 ≤ x.1 := fun x hx => h0 x (List.mem_cons_of_mem _ hx)
    have hnn := mins_nn h3
    have hl3 : e3.length = m + 1 := by simpa using h2
    have hsplit : (goOn p (m + 1) own).filter (inEnds e) = (List.range (p - own.sum + 1).toNat).flatMap fun i : Nat => (goOn p m (own ++ [(i : Int)])).filter (inEnds e) := by
      show ((exts p own).flatMap (goOn p m)).filter (inEnds e) = _
      unfold exts
      rw [List.flatMap_map, List.filter_flatMap]
    have he' : e = (e1 ++ [(l, g)]) ++ e3 := by rw [he, List.append_assoc]; rfl
    have hl' : ∀ i : Int, (e1 ++ [(l, g)]).length = (own ++ [i]).length := fun i => by simp [hl]
    have hb' : ∀ i : Int, inEnds (e1 ++ [(l, g)]) (own ++ [i]) = (decide (l ≤ i) && decide (i ≤ g)) := fun i => by
      rw [inEnds_app hl, hb]
      simp [inEnds]
    have step : ∀ i : Nat, i < (p - own.sum + 1).toNat → ((goOn p m (own ++ [(i : Int)])).filter (inEnds e)).head? = if (l ≤ (i : Int) ∧ (i : Int) ≤ g) ∧ fitB e3 (p - own.sum - (i : Int)) = true then some (own ++ (i : Int) :: greedy e3 (p - own.sum - (i : Int))) else none := fun i hi => by
      by_cases q : l ≤ (i : Int) ∧ (i : Int) ≤ g
      · have hbt : inEnds (e1 ++ [(l, g)]) (own ++ [(i : Int)]) = true := by rw [hb']; simp [q.1, q.2]
        rw [first_goOn p e m (own ++ [(i : Int)]) (e1 ++ [(l, g)]) e3 he' (hl' _) hbt hl3 h3 (by rw [sum_app1]; omega), sum_app1, show p - (own.sum + (i : Int)) = p - own.sum - (i : Int) by omega]
        by_cases q2 : fitB e3 (p - own.sum - (i : Int)) = true
        · rw [if_pos q2, if_pos ⟨q, q2⟩, List.append_assoc]
          rfl
        · rw [if_neg q2, if_neg fun z => q2 z.2]
      · have hbf : inEnds (e1 ++ [(l, g)]) (own ++ [(i : Int)]) = false := by rw [hb']; simpa using fun a => by omega
        rw [filter_none_of_pre he' (hl' _) hbf, if_neg fun z => q z.1]
        rfl
    rw [hsplit]
    by_cases hf : fitB ((l, g) :: e3) (p - own.sum) = true
    · have hf2 := (fit_cons l g e3 _).mp hf
      obtain ⟨a1, a2, a3, a4⟩ := hf2
      have hmm := mins_maxs a2
      have a3' : l + mins e3 ≤ p - own.sum := a3
      have a4' : p - own.sum ≤ g + maxs e3 := a4
      rw [if_pos hf]
      -- the first one
      have hx0 : 0 ≤ (if p - own.sum - maxs e3 > l then p - own.sum - maxs e3 else l) := by split <;> omega
      generalize hx : (if p - own.sum - maxs e3 > l then p - own.sum - maxs e3 else l) = x at hx0
      have hxl : l ≤ x := by rw [← hx]; split <;> omega
      have hxr : p - own.sum - maxs e3 ≤ x := by rw [← hx]; split <;> omega
      have hxg : x ≤ g := by rw [← hx]; split <;> omega
      have hxm : x ≤ p - own.sum - mins e3 := by rw [← hx]; split <;> omega
      have hxx : x = l ∨ x = p - own.sum - maxs e3 := by
        rw [← hx]
        split
        · exact .inr rfl
        · exact .inl rfl
      obtain ⟨k, rfl⟩ : ∃ k : Nat, x = (k : Int) := ⟨x.toNat, by omega⟩
      have hk : k < (p - own.sum + 1).toNat := by omega
      have fit3 : ∀ i : Int, fitB e3 (p - own.sum - i) = true ↔ mins e3 ≤ p - own.sum - i ∧ p - own.sum - i ≤ maxs e3 := fun i => by
        rw [fit_iff]
        exact ⟨fun z => z.2, fun z => ⟨a2, z⟩⟩
      have hg : greedy ((l, g) :: e3) (p - own.sum) = (k : Int) :: greedy e3 (p - own.sum - (k : Int)) := by
        show (if p - own.sum - maxs e3 > l then p - own.sum - maxs e3 else l) :: greedy e3 (p - own.sum - (if p - own.sum - maxs e3 > l then p - own.sum - maxs e3 else l)) = _
        rw [hx]
      rw [hg]
      refine head_range _ _ k _ hk (fun i hi => ?_) ?_
      · have := step i (by omega)
        rw [if_neg] at this
        · exact List.head?_eq_none_iff.mp this
        · rintro ⟨⟨z1, z2⟩, z3⟩
          have := (fit3 i).mp z3
          omega
      · rw [step k hk, if_pos]
        refine ⟨⟨hxl, hxg⟩, (fit3 _).mpr ⟨by omega, by omega⟩⟩
    · rw [if_neg hf]
      refine head_none _ _ fun i hi => ?_
      have := step i hi
      rw [if_neg] at this
      · exact List.head?_eq_none_iff.mp this
      · rintro ⟨⟨z1, z2⟩, z3⟩
        have z4 := (fit_iff _ _).mp z3
        exact hf ((fit_cons l g e3 _).mpr ⟨by omega, z4.1, by omega, by omega⟩)
theorem first_tried (n : Nat) (p : Int) (e : EndL) (he : e.length = n + 1) (h0 : ∀ x ∈ e, 0 ≤ x.1) (hp : 0 ≤ p) : ((tried n p).filter (inEnds e)).head? = if fitB e p = true then some (greedy e p) else none := by
  rw [tried_goOn, first_goOn p e n [] [] e rfl rfl rfl he h0 (by simpa using hp)]
  simp
end K68
namespace K68
theorem mem_le_sum : ∀ {l : List Int} {c : Int}, (∀ x ∈ l, 0 ≤ x) → c ∈ l → c ≤ l.sum
  | [], _, _, h => by simp at h
  | x :: r, c, h0, h => by
    have h1 := h0 x List.mem_cons_self
    have hr : 0 ≤ r.sum := by
      have : ∀ l : List Int, (∀ x ∈ l, 0 ≤ x) → 0 ≤ l.sum := by
        intro l
        induction l with
        | nil => intro _; simp
        | cons y t ih =>
          intro q
          rw [List.sum_cons]
          have a := q y List.mem_cons_self
          have b := ih fun z hz => q z (List.mem_cons_of_mem _ hz)
          omega
      exact this r fun z hz => h0 z (List.mem_cons_of_mem _ hz)
    rw [List.sum_cons]
    rcases List.mem_cons.mp h with e | e
    · omega
    · have := mem_le_sum (fun z hz => h0 z (List.mem_cons_of_mem _ hz)) e
      omega
theorem sum_nn : ∀ {l : List Int}, (∀ x ∈ l, 0 ≤ x) → 0 ≤ l.sum
  | [], _ => by simp
  | y :: t, q => by
    rw [List.sum_cons]
    have a := q y List.mem_cons_self
    have b := sum_nn fun z hz => q z (List.mem_cons_of_mem _ hz)
    omega
/-- what holds of all that own grows to -/
structure Own (n : Nat) (p : Int) (own : List Int) : Prop where
  len : own.length = n
  nn : ∀ x ∈ own, 0 ≤ x
  le : own.sum ≤ p
theorem own_nil {p : Int} (hp : 0 ≤ p) : Own 0 p [] := ⟨rfl, by simp, by simpa using hp⟩
theorem own_ext {n : Nat} {p : Int} {own : List Int} (h : Own n p own) {i : Int} (h0 : 0 ≤ i) (hi : i < p - own.sum + 1) : Own (n + 1) p (own ++ [i]) :=
  ⟨by rw [List.length_append, h.len]; rfl, fun x hx => by
    rcases List.mem_append.mp hx with e | e
    · exact h.nn x e
    · rw [List.mem_singleton] at e
      omega, by rw [sum_app1]; omega⟩
theorem own_exts {n : Nat} {p : Int} {own t : List Int} (h : Own n p own) (ht : t ∈ exts p own) : Own (n + 1) p t := by
  unfold exts at ht
  rw [List.mem_map] at ht
  obtain ⟨i, hi, rfl⟩ := ht
  rw [List.mem_range] at hi
  exact own_ext h (Int.natCast_nonneg _) (by omega)
theorem own_level {p : Int} (hp : 0 ≤ p) : ∀ (n : Nat) (t : List Int), t ∈ level p n → Own n p t
  | 0, t, h => by
    have : t = [] := by simpa [level] using h
    subst this
    exact own_nil hp
  | n + 1, t, h => by
    unfold level at h
    rw [List.mem_flatMap] at h
    obtain ⟨o, ho, ht⟩ := h
    exact own_exts (own_level hp n o ho) ht
theorem own_tried {p : Int} (hp : 0 ≤ p) {n : Nat} {t : List Int} (h : t ∈ tried n p) : t.length = n + 1 ∧ t.sum = p ∧ ∀ c ∈ t, 0 ≤ c := by
  unfold tried at h
  rw [List.mem_map] at h
  obtain ⟨o, ho, rfl⟩ := h
  have w := own_level hp n o ho
  have hle := w.le
  unfold last1
  refine ⟨by rw [List.length_append, w.len]; rfl, by rw [sum_app1]; omega, fun c hc => ?_⟩
  rcases List.mem_append.mp hc with e | e
  · exact w.nn c e
  · rw [List.mem_singleton] at e
    omega
def sharesOf (u p : Int) (t : List Int) : List Int := t.map fun c => near u c p
def ends (u p : Int) (S : List Int) : EndL := S.map fun s => (lo s p u, hi s p u)
theorem ends_len (u p : Int) (S : List Int) : (ends u p S).length = S.length := by unfold ends; rw [List.length_map]
theorem ends_nn {u p : Int} (hu : 0 < u) (hp : 0 < p) (S : List Int) : ∀ x ∈ ends u p S, 0 ≤ x.1 := fun x hx => by
  unfold ends at hx
  rw [List.mem_map] at hx
  obtain ⟨s, _, rfl⟩ := hx
  exact lo_nn hu hp
theorem shares_in {u p : Int} (hu : 0 < u) (hp : 0 < p) : ∀ (S t : List Int), t.length = S.length → (∀ s ∈ S, 0 ≤ s) → (∀ c ∈ t, 0 ≤ c ∧ c ≤ p) → (sharesOf u p t = S ↔ inEnds (ends u p S) t = true)
  | [], [], _, _, _ => by simp [sharesOf, ends, inEnds]
  | [], _ :: _, h, _, _ => by simp at h
  | _ :: _, [], h, _, _ => by simp at h
  | s :: S, c :: t, h, hs, hc => by
    have ih := shares_in hu hp S t (by simpa using h) (fun x hx => hs x (List.mem_cons_of_mem _ hx)) fun x hx => hc x (List.mem_cons_of_mem _ hx)
    have h1 := near_iff hu hp (hs s List.mem_cons_self) (hc c List.mem_cons_self).1 (hc c List.mem_cons_self).2
    show (near u c p :: sharesOf u p t = s :: S) ↔ (decide (lo s p u ≤ c) && decide (c ≤ hi s p u) && inEnds (ends u p S) t) = true
    rw [List.cons.injEq, ih, h1]
    simp only [Bool.and_eq_true, decide_eq_true_eq]
/-- the tuples that have the shares -/
def due (u p : Int) (S : List Int) (n : Nat) : List (List Int) := (tried n p).filter fun t => decide (sharesOf u t.sum t = S)
def firstOf (u p : Int) (S : List Int) : Option (List Int) := if fitB (ends u p S) p = true then some (greedy (ends u p S) p) else none
theorem due_head {u p : Int} (hu : 0 < u) (hp : 0 < p) {S : List Int} {n : Nat} (hS : ∀ s ∈ S, 0 ≤ s) (hn : S.length = n + 1) : (due u p S n).head? = firstOf u p S := by
  have e : due u p S n = (tried n p).filter (inEnds (ends u p S)) := by
    unfold due
    apply List.filter_congr
    intro t ht
    obtain ⟨h1, h2, h3⟩ := own_tried (by omega) ht
    rw [h2, Bool.eq_iff_iff, decide_eq_true_iff]
    exact shares_in hu hp S t (by omega) hS fun c hc => ⟨h3 c hc, by have := mem_le_sum h3 hc; omega⟩
  rw [e, first_tried n p _ (by rw [ends_len, hn]) (ends_nn hu hp S) (by omega)]
  rfl
theorem due_empty {u p : Int} (hu : 0 < u) (hp : 0 < p) {S : List Int} {n : Nat} (hS : ∀ s ∈ S, 0 ≤ s) (hn : S.length = n + 1) : (due u p S n).isEmpty = !fitB (ends u p S) p := by
  have h := due_head hu hp hS hn
  unfold firstOf at h
  cases hf : fitB (ends u p S) p with
  | true =>
    rw [if_pos hf] at h
    cases e : due u p S n with
    | nil =>
      rw [e] at h
      cases h
    | cons a b => rfl
  | false =>
    rw [if_neg (by rw [hf]; simp)] at h
    rw [List.head?_eq_none_iff.mp h]
    rfl

/-! the counts with a share -/
def owns (u p s : Int) (n : Nat) : List Int := ((List.range n).map fun i : Nat => (i : Int)).filter fun c => decide (near u c p = s)
theorem owns_succ (u p s : Int) (n : Nat) : owns u p s (n + 1) = if near u (n : Int) p = s then owns u p s n ++ [(n : Int)] else owns u p s n := by
  unfold owns
  rw [List.range_succ, List.map_append, List.filter_append]
  by_cases h : near u (n : Int) p = s
  · rw [if_pos h]
    simp [h]
  · rw [if_neg h]
    simp [h]
theorem owns_upto {u p s : Int} (hu : 0 < u) (hp : 0 < p) (hs : 0 ≤ s) : ∀ n : Nat, (n : Int) ≤ p + 1 →
    (owns u p s n = [] ∧ (lo s p u > hi s p u ∨ (n : Int) ≤ lo s p u)) ∨ (lo s p u ≤ hi s p u ∧ lo s p u < (n : Int) ∧ (owns u p s n).head? = some (lo s p u) ∧ (owns u p s n).getLast? = some (if (n : Int) - 1 < hi s p u then (n : Int) - 1 else hi s p u))
  | 0, _ => .inl ⟨rfl, by
      have := lo_nn (s := s) hu hp
      exact .inr this⟩
  | n + 1, hn => by
    have hn' : (n : Int) ≤ p := by omega
    have hiff := near_iff (s := s) hu hp hs (Int.natCast_nonneg n) hn'
    rw [owns_succ]
    rcases owns_upto hu hp hs n (by omega) with ⟨e, h⟩ | ⟨h1, h2, h3, h4⟩
    · rw [e]
      by_cases q : near u (n : Int) p = s
      · rw [if_pos q]
        have := hiff.mp q
        refine .inr ⟨by omega, by omega, ?_, ?_⟩
        · show some (n : Int) = _
          congr 1
          omega
        · show some (n : Int) = _
          congr 1
          split <;> omega
      · rw [if_neg q]
        refine .inl ⟨rfl, ?_⟩
        have : ¬ (lo s p u ≤ (n : Int) ∧ (n : Int) ≤ hi s p u) := fun z => q (hiff.mpr z)
        omega
    · by_cases q : near u (n : Int) p = s
      · rw [if_pos q]
        have := hiff.mp q
        refine .inr ⟨h1, by omega, ?_, ?_⟩
        · rw [List.head?_append, h3]
          rfl
        · rw [List.getLast?_concat]
          congr 1
          split <;> omega
      · rw [if_neg q]
        have : ¬ (lo s p u ≤ (n : Int) ∧ (n : Int) ≤ hi s p u) := fun z => q (hiff.mpr z)
        refine .inr ⟨h1, by omega, h3, ?_⟩
        rw [h4]
        congr 1
        split <;> split <;> omega
/-- what the program tells of a share -/
def stretch (u p s : Int) : Option (Int × Int) := if s ≤ u ∧ lo s p u ≤ hi s p u then some (lo s p u, hi s p u) else none
theorem owns_stretch {u p s : Int} (hu : 0 < u) (hp : 0 < p) (hs : 0 ≤ s) : stretch u p s = match (owns u p s (p + 1).toNat).head?, (owns u p s (p + 1).toNat).getLast? with
    | some a, some b => some (a, b)
    | _, _ => none := by
  have hh : hi s p u ≤ p := hi_le
  have hn : ((p + 1).toNat : Int) = p + 1 := by omega
  have h := owns_upto hu hp hs (p + 1).toNat (by omega)
  rw [hn] at h
  unfold stretch
  rcases h with ⟨e, h⟩ | ⟨h1, h2, h3, h4⟩
  · rw [e, if_neg (by omega)]
    rfl
  · rw [h3, h4]
    have hsu : s ≤ u := by
      have : lo s p u ∈ owns u p s (p + 1).toNat := List.mem_of_head? h3
      unfold owns at this
      rw [List.mem_filter, List.mem_map] at this
      obtain ⟨⟨i, hi2, e⟩, q⟩ := this
      rw [List.mem_range] at hi2
      have q := of_decide_eq_true q
      rw [← q, ← e]
      exact near_le hu hp (by omega)
    rw [if_pos ⟨hsu, h1⟩]
    have : (if p + 1 - 1 < hi s p u then p + 1 - 1 else hi s p u) = hi s p u := by split <;> omega
    rw [this]
end K68
/-! rules that the layer lacks: repr of nested data, sum and max of a tuple, enumerate of a tuple -/
namespace K68
open PySem PySem.Spec PyProof.Rows L2
section
variable {X : Cx}
/-- repr(xs), xs nested data; nothing is being shown around -/
def rRepr (K : PySem.W.Frag) : List V → Hp → VK → Prop := fun vs H Q => ∃ (a : Addr) (d : PyData), vs = [V.ref a] ∧ Dp K H (.ref a) d ∧ d.showable = true ∧ d.hasDict = false ∧ d.depth ≤ 20 ∧ d.shown.length ≤ sizeLine ∧ Q (.str d.shown) H
theorem call_repr (hg : X.A.guards = some []) (hu : X.A.units + 64 < cLine) : CallR X (.builtin "repr") (rRepr X.K) := by
  intro pins s σ H vs us Q I r h
  obtain ⟨a, d, rfl, hD, h1, h2, h3, h4, q⟩ := h
  obtain rfl := Vals.ref1 r
  obtain ⟨as, rd⟩ := Dp.reads I d _ _ hD rfl
  exact repr_of_reads' rd h1 (PyData.noDict_hsm h2) hg (by omega) (fun _ _ e => e) (fun h' u tk hk => ⟨.str d.shown, H, I.kept hk, ⟨u, rfl⟩, q⟩) h4
/-- sum(t), t a tuple of ints -/
def rSumT (K : PySem.W.Frag) : List V → Hp → VK → Prop := fun vs H Q => ∃ (a : Addr) (ns : List Int), vs = [V.ref a] ∧ SqT K H a (ns.map V.int) ∧ Q (.int ns.sum) H
theorem call_sumT (hc : X.calm = true) : CallR X (.builtin "sum") (rSumT X.K) := by
  intro pins s σ H vs us Q I r h
  obtain ⟨a, ns, rfl, hs, q⟩ := h
  obtain rfl := Vals.ref1 r
  obtain ⟨its, rv, hT, _⟩ := I.tuple hs
  have hi := rv.ints
  obtain ⟨o, ho, hcl, n, hd⟩ := hT
  have hT2 : s.heap.IsTuple a its.toArray := ⟨o, ho, hcl, n, hd⟩
  obtain ⟨xs, e⟩ := hi.allInts.items
  have hn : numsOf (intItems xs).toList = ns := by
    rw [← e]
    exact hi.numsOf
  rw [nums_intItems] at hn
  rw [e] at hT2
  refine PySem.W.ktm_sumG (I.ok.hd hc) hT2 fun h' tk t' hk => ?_
  refine ⟨.int ns.sum, H, I.kept hk, ?_, q⟩
  rw [preSum_eq, List.take_of_length_le (by simp), hn]
  exact ⟨_, rfl⟩
/-- max(t), t a tuple of two ints, the second the greater one -/
def rMax2 (K : PySem.W.Frag) : List V → Hp → VK → Prop := fun vs H Q => ∃ (a : Addr), vs = [V.ref a] ∧ SqT K H a [.int 100, .int 1000] ∧ Q (.int 1000) H
theorem call_max2T (hc : X.calm = true) (hu : X.A.units + 64 < cLine) : CallR X (.builtin "max") (rMax2 X.K) := by
  intro pins s σ H vs us Q I r h
  obtain ⟨a, rfl, hs, q⟩ := h
  obtain rfl := Vals.ref1 r
  obtain ⟨its, rv, hT, _⟩ := I.tuple hs
  obtain ⟨o, ho, hcl, n, hd⟩ := hT
  have hT2 : s.heap.IsTuple a its.toArray := ⟨o, ho, hcl, n, hd⟩
  have hr : ∃ as, ReadsAll s.heap its.toArray.toList [PyData.int 100, PyData.int 1000] as := by
    cases rv with
    | cons r1 rr =>
      cases rr with
      | cons r2 r3 =>
        cases r3
        obtain ⟨t1, rfl⟩ := r1
        obtain ⟨t2, rfl⟩ := r2
        exact ⟨_, ReadsAll.cons (Reads.int 100 t1) (ReadsAll.cons (Reads.int 1000 t2) ReadsAll.nil)⟩
  obtain ⟨as, hr⟩ := hr
  refine PySem.W.max_tuple_data (I.ok.hd hc) hT2 hr ?_ ?_ fun i v h' tk bs _ rd hk => ?_
  · refine ⟨by decide, fun x hx => ?_⟩
    simp only [List.mem_cons, List.not_mem_nil, or_false] at hx
    rcases hx with rfl | rfl <;> exact fun q => nomatch q
  · have e : PyData.depthAll [PyData.int 100, PyData.int 1000] = 0 := by decide
    rw [e]
    omega
  · have e : PySem.W.maxD (PyData.int 100) [PyData.int 1000] = .int 1000 := rfl
    rw [e] at rd
    cases rd
    exact ⟨.int 1000, H, I.kept hk, ⟨_, rfl⟩, q⟩
/-! enumerate(t), t a tuple -/
theorem meets_enumT {v : Value} {o : Obj} {G : Heap → Prop} (B : Begins v o G) :
    Meets (Builtin.«enumerate.__new__» ⟨[.type "enumerate", v], []⟩) (fun _ R z => G z.heap ∧
      R (.ok (.ret (.ref (z.heap.push o).objs.size)))
        { z with heap := (z.heap.push o).push { cls := .type "enumerate", data := .fields #[.none, .bool false, .ref z.heap.objs.size, rawInt 0, .none, .none] } }) :=
  .of_wp fun prog w A R z hz => by
    obtain ⟨hp, gg, dd, kk, oo⟩ := z
    obtain ⟨g1, g2⟩ := hz
    have hsu := sub_enumerate
    have it0 : ∀ {A1 : Around} {E1 : Value → Shared → Prop} {Q1 : Value → Shared → Prop}, Q1 (.ref hp.objs.size) ⟨hp.push o, gg, dd, kk, oo⟩ → wpAny (model prog w) A1 (pyIter v) Q1 E1 ⟨hp, gg, dd, kk, oo⟩ :=
      fun {A1 E1 Q1} q => B.iter prog w A1 E1 ⟨hp, gg, dd, kk, oo⟩ Q1 g1 q
    wp_walk using it0
    refine wpAny_stack_any fun around => wpAny_pure ?_
    split
    · rename_i cl _ _ _ _ _
      cases (cl == Value.type "enumerate") <;>
        (wp_walk using it0
         exact ⟨_, rfl, g2⟩)
    · (wp_walk using it0
       exact ⟨_, rfl, g2⟩)
theorem call_enumT {prog : Program} {w : World} {A : Around} {E : Value → Shared → Prop} {z : Shared} {v : Value} {o : Obj} {G : Heap → Prop} {Q : Value → Shared → Prop} (B : Begins v o G) (g : G z.heap)
    (k : ∀ h', IsEnum h' (z.heap.objs.size + 1) z.heap.objs.size 0 .none → h'.get? z.heap.objs.size = some o →
      (∀ b x, z.heap.get? b = some x → h'.get? b = some x) → Q (.ref (z.heap.objs.size + 1)) { z with heap := h' }) :
    wpAny (model prog w) A (call (.type "enumerate") [v]) Q E z := by
  refine callType_new F.called_enumerate (by decide) (F.typeCall_enumerate_1 _) (F.newCall_enumerate_1 _) (fun obj => F.args_object_init_2 obj _) F.entry_enumerate_new (meets_enumT B) ⟨g, ?_⟩
  have sz : (z.heap.push o).objs.size = z.heap.objs.size + 1 := Heap.size_push ..
  show _ ∧ _
  rw [sz]
  have ie : ((z.heap.push o).push { cls := .type "enumerate", data := .fields #[.none, .bool false, .ref z.heap.objs.size, rawInt 0, .none, .none] }).get? (z.heap.objs.size + 1) = some { cls := .type "enumerate", data := .fields #[.none, .bool false, .ref z.heap.objs.size, rawInt 0, .none, .none] } := by
    rw [← sz]
    exact Heap.get?_push_size _ rfl
  exact ⟨⟨_, ie, rfl⟩, k _ ie (Heap.get?_push_of_some _ (Heap.get?_push_size _ B.free)) fun b x q => Heap.get?_push_of_some _ (Heap.get?_push_of_some _ q)⟩
/-- the tuple at a, its items in new pairs -/
def ItT (K : PySem.W.Frag) (a : Addr) : It :=
  ⟨fun i H => ∃ (xs : List V) (x : V), SqT K H a xs ∧ xs[i]? = some x,
   fun i H v H' => ∃ T x, v = .ref T ∧ H T = none ∧ H' = upd H T (.tup [.int (i : Nat), x]) ∧ ∀ xs, SqT K H a xs → xs[i]? = some x,
   fun i H => ∃ xs : List V, SqT K H a xs ∧ xs.length = i⟩
theorem turn_enumT {P : Program} {w : World} {K : PySem.W.Frag} {elts : List Expr} {kk : Nat} {tp : Pos} (a e it : Addr) :
    Turn P w K (.Tuple elts kk tp) (ItT K a) [e, it] e (fun i h => (∃ old, IsEnum h e it ((i : Nat) : Int) old) ∧ h.IsTupleIter it a i ∧ e ≠ it ∧ e ≠ a ∧ a ≠ it) where
  mem := by simp
  obj := by
    rintro i h ⟨⟨old, he⟩, ⟨o, ho, hc, hd⟩, _⟩ b hb
    simp only [List.mem_cons, List.not_mem_nil, or_false] at hb
    rcases hb with rfl | rfl
    · exact ⟨_, he, fun v q => nomatch q⟩
    · exact ⟨o, ho, fun v q => by rw [hd] at q; cases q⟩
  keep := by
    rintro i h h' ⟨⟨old, he⟩, hi, hne⟩ k
    exact ⟨⟨old, k e (by simp) _ he⟩, hi.at fun o q => k it (by simp) o q, hne⟩
  item := by
    intro X hP hw hK hc i pins s σ H E I hf st hg
    subst hP hw hK
    obtain ⟨⟨old, he⟩, hit, hne, hea, hai⟩ := st
    obtain ⟨xs, x, hq, hx⟩ := hg
    obtain ⟨its, rv, ⟨oa, ho1, ho2, na, ho3⟩, hz⟩ := I.tuple hq
    obtain ⟨u, hu, ru⟩ := rv.get hx
    have hT : s.heap.IsTuple a its.toArray := ⟨oa, ho1, ho2, na, ho3⟩
    have hel : e < s.heap.objs.size := Heap.lt_size he
    have hil : it < s.heap.objs.size := by
      obtain ⟨_, q, _⟩ := hit
      exact Heap.lt_size q
    have hlt : i < its.toArray.size := by
      obtain ⟨q, _⟩ := List.getElem?_eq_some_iff.mp hu
      simpa using q
    refine wpAny_pyNext_enum_itemD (Draws.tuple (A := X.A.in1) (I.ok.hd hc) it a hai its.toArray) he ⟨hit, hT⟩ hlt hne (by simp [hne, hea]) fun y h' tk hy ho hst hT2 hsz hk => ?_
    have ey : y = u := by
      have h1 : its.toArray[i]? = some y := hy
      have h2 : its.toArray[i]? = some u := by simpa using hu
      exact Option.some.inj (h1.symm.trans h2)
    subst ey
    refine ⟨_, rfl, wpAny_letOwnedTupleGo_enum (s := { s with heap := h', toks := tk + 1 }) ho fun h2 he2 sb => ?_⟩
    have at2 : h2.get? s.heap.objs.size = some { cls := .type "tuple", data := .seq #[.int i tk, y] } := (sb.2 _ (Nat.ne_of_gt hel)).trans hT2
    have new : ObjOk X.prog X.w (upd H s.heap.objs.size (.tup [.int (i : Nat), x])) h2 s.heap.objs.size (.tup [.int (i : Nat), x]) :=
      ⟨by show 2 ≤ sizeLine; decide, [.int i tk, y], .cons ⟨_, rfl⟩ (.cons ru .nil), ⟨_, at2, rfl, _, rfl⟩⟩
    have I1 : Inv X pins σ (upd H s.heap.objs.size (.tup [.int (i : Nat), x])) { s with heap := h2, toks := tk + 1 } :=
      I.turnedNew (ch := [e, it]) (fun b ob hb q => (sb.2 b (fun z => hb (by simp [z]))).trans (hk b ob (fun z => hb (by simp [z])) (fun z => hb (by simp [z])) q)) hf (Nat.le_refl _) new
    refine ⟨.ref s.heap.objs.size, _, I1, rfl, ⟨_, x, rfl, I.hok.fresh (Nat.le_refl _), rfl, fun ys hys => by rw [I.tuple_inj hys hq]; exact hx⟩, ⟨⟨y, ?_⟩, hst.1.at fun o q => (sb.2 it (Ne.symm hne)).trans q, hne, hea, hai⟩, fun b hb => ?_⟩
    · rw [show ((i + 1 : Nat) : Int) = (i : Int) + 1 by omega]
      exact he2
    · have lt : b < s.heap.objs.size := by
        simp only [List.mem_cons, List.not_mem_nil, or_false] at hb
        rcases hb with rfl | rfl
        · exact hel
        · exact hil
      rw [upd_ne (Nat.ne_of_lt lt)]
      exact (hf b hb).1
  done := by
    intro X hP hw hK hc i pins s σ H E I hf st hg
    subst hP hw hK
    obtain ⟨⟨old, he⟩, hit, hne, hea, hai⟩ := st
    obtain ⟨xs, hq, hx⟩ := hg
    obtain ⟨its, rv, ⟨oa, ho1, ho2, na, ho3⟩, hz⟩ := I.tuple hq
    have hT : s.heap.IsTuple a its.toArray := ⟨oa, ho1, ho2, na, ho3⟩
    obtain ⟨f0, f1, f2, f3, f4, f5⟩ := hf it (by simp)
    have hn : its.toArray.size = i := by
      have := rv.length
      simp
      omega
    subst hn
    exact wpAny_pyNext_enum_endD (Draws.tuple (A := X.A.in1) (I.ok.hd hc) it a hai its.toArray) he ⟨hit, hT⟩ fun h' eb => ⟨rfl, I.turned (t' := s.toks) (fun b o hb q => eb b o hb q) f0 f1 f3 f4 f5⟩
  self := by
    rintro A i s Q E ⟨⟨_, he⟩, _⟩ h
    exact wpAny_pyIter_enum he h
def iEnumT (K : PySem.W.Frag) (ta : TA) : TI := fun σ H R => ta σ H fun vs H1 => ∃ a xs, vs = [.ref a] ∧ SqT K H1 a xs ∧ R (ItT K a) H1
theorem pi_enumT {e : Expr} {ta : TA} {p pos tp : Pos} {elts : List Expr} {kk : Nat} (hg : Gl X "enumerate") (hm : X.mg "enumerate" = none) (ha : PA X [e] ta) (hs : starEach [e] X.env = [(false, eval e X.env)] := by rfl) :
    PI X (.Tuple elts kk tp) (.Call (.Name "enumerate" p) [e] [] pos) (iEnumT X.K ta) := by
  constructor
  intro pins s σ H R I h
  refine Call_ (ld_blt I hg hm boot_enumerate (PyProof.Rows.callWith_type1 (thn (ha.run pos pins s σ H _ I h) ?_) hs rfl))
  rintro us s1 ⟨vs, H1, I1, r1, a, xs, rfl, hq, q⟩
  obtain rfl := Vals.ref1 r1
  obtain ⟨its, rv, ⟨oa, ho1, ho2, na, ho3⟩, hz⟩ := I1.tuple hq
  have hT : s1.heap.IsTuple a its.toArray := ⟨oa, ho1, ho2, na, ho3⟩
  have hal : a < s1.heap.objs.size := Heap.lt_size ho1
  refine call_enumT (begins_tuple a its.toArray) hT fun h' he hit hk => wpAny_pyIter_enum he ?_
  have I2 : Inv X pins σ H1 { s1 with heap := h' } := I1.kept (t' := s1.toks) hk
  refine ⟨s1.heap.objs.size + 1, [s1.heap.objs.size + 1, s1.heap.objs.size], _, _, H1, rfl, I2, turn_enumT a (s1.heap.objs.size + 1) s1.heap.objs.size, ⟨⟨.none, he⟩, ⟨_, hit, rfl, rfl⟩, Nat.succ_ne_self _, Nat.ne_of_gt (Nat.lt_succ_of_lt hal), Nat.ne_of_lt hal⟩, fun b hb => ?_, q⟩
  have hle : s1.heap.objs.size ≤ b := by
    simp only [List.mem_cons, List.not_mem_nil, or_false] at hb
    rcases hb with rfl | rfl
    · exact Nat.le_succ _
    · exact Nat.le_refl _
  exact I1.fpOk hle (I1.hok.fresh hle)
end
end K68
/-! promises of defs that hold where nothing is being shown around (repr is asked in them) -/
namespace K68
open PySem PySem.Spec PyProof.Rows L2
/-- a def's promise, as FnOk, for callers around which nothing is being shown -/
structure FnG (P : Program) (w : World) (K : PySem.W.Frag) (mg : Str → Option Value) (base : Heap) (k : Nat) (f : Addr) (fd : FuncData) (ps : List Str) (sp : Sp) : Prop where
  arity : ∀ vs H Q E, sp vs H Q E → vs.length = ps.length
  go : ∀ (A : Around), Room k A → A.guards = some [] → ∀ (outer : List Env) (s : Shared) (H : Hp) (args : Args) (us : List Value) (vs : List V) (Q : VK) (E : XK),
    Env0 P w K mg base A outer s H → BindsTo s fd args (ps.zip us) → Vals vs us → sp vs H Q E →
    codeAny (model P w) A (.call (.ref f) args) (CR CX0 outer P w H s Q E) s
section
variable {P : Program} {w : World} {K : PySem.W.Frag} {mg : Str → Option Value} {base : Heap}
theorem FnG.mono {j k : Nat} {f : Addr} {fd : FuncData} {ps : List Str} {sp : Sp} (F : FnG P w K mg base j f fd ps sp) (h : j ≤ k) : FnG P w K mg base k f fd ps sp :=
  ⟨F.arity, fun A hr hg outer s H args us vs Q E e0 hb hv hs => F.go A (hr.mono h) hg outer s H args us vs Q E e0 hb hv hs⟩
/-- a def by its body -/
theorem okG {x qual : Str} {st : Stmt} {f : Addr} {fd : FuncData} {N ps : List Str} {k : Nat} {sp : Sp} (F : Fun K x qual st f fd) (S : FnScope N ps (defScope st)) (ar : ∀ vs H Q E, sp vs H Q E → vs.length = ps.length)
    (bd : ∀ (cdv : Value) (A : Around) (outer : List Env) (s : Shared) (H : Hp) (vs : List V) (Q : VK) (E : XK), Room k (A.deeper (envOfC qual (defScope st) s.heap.objs.size f cdv)) →
      (A.deeper (envOfC qual (defScope st) s.heap.objs.size f cdv)).guards = some [] → sp vs H Q E →
      ∃ t, PSs (cxOf CX0 P w K mg base N qual (defScope st) f cdv A outer s H E).nox (defBody st) t ∧ t { nx := fun _ H' => Q .non H', rt := Q } (start N vs) H) : FnG P w K mg base (k + 1) f fd ps sp := by
  obtain ⟨oc, od, kV, doc, pm, an, cdv, ct, osl, rfl, lk, hcd⟩ := F.ex
  constructor
  · exact ar
  intro A hr hg outer s H args us vs Q E e0 hb r hsp
  have lenp := ar _ _ _ _ hsp
  have kin : K.In s.heap := e0.mod.kin.keeps fun b o e => (e0.bs b o e).1
  have nolim : s.heap.NoLimit := e0.mod.nolimit.keeps fun b o e => (e0.bs b o e).1
  refine codeAny_call_function hr.depth (kin _ _ lk) rfl S.co S.gen rfl (PySem.W.codeRec_of kin hcd) (hb _ _ _ _ ?_)
  refine wpAny_newFunctionEnv_cells S.kind ?kinds ?rest
  case kinds =>
    rintro ⟨n, v⟩ hy
    cases S.par n (List.of_mem_zip hy).1 with
    | inl q => exact Or.inl q
    | inr q => exact Or.inr ⟨q, PySem.W.cellsFrom_some _ _ _ (.inl q)⟩
  case rest =>
    rintro env rfl s1 x
    refine ⟨nolim.keeps x.toInCall.keep, codeAny_func ?_⟩
    obtain ⟨t, ht, hq⟩ := bd cdv A outer s H vs Q E (hr.deeper _) hg hsp
    have I : Inv (cxOf CX0 P w K mg base N qual (defScope st) f cdv A outer s H E) [] (start N vs) H s1 := inv_start S hr.hd e0 lenp r x
    refine wpAny_mono (ht.nox.run [] s1 (start N vs) H _ I hq) ?ends fun e s' hs => hs
    case ends =>
      intro fl s' hs
      match fl, hs with
      | .ret u, hs =>
        obtain ⟨v, σ', H', J, rv, q⟩ := hs
        exact ⟨v, H', J.os, J.bare, J.base, J.hok, rv, q⟩
      | .next, hs =>
        obtain ⟨σ', H', J, q⟩ := hs
        exact ⟨V.non, H', J.os, J.bare, J.base, J.hok, rfl, q⟩
      | .brk, hs =>
        obtain ⟨_, _, _, q⟩ := hs
        exact q.elim
      | .cont, hs =>
        obtain ⟨_, _, _, q⟩ := hs
        exact q.elim
end
section
variable {X : Cx} {k : Nat} {f : Addr} {fd : FuncData} {ps : List Str} {sp : Sp} {x : Str} {p pos : Pos} {e : Expr} {es : List Expr} {t : TA}
/-- f(e, ..) of such a def -/
theorem pe_callG (F : FnG X.prog X.w X.K X.mg X.base k f fd ps sp) (hr : Room k X.A) (hgd : X.A.guards = some []) (hg : Gl X x) (hm : X.mg x = some (.ref f)) (hk : PySem.W.keepIn X.K (.ref f) = true) (hb : Binds X.K fd ps [])
    (ha : PA X (e :: es) t) (hdb : (x == ("__debug__" : Str)) = false := by decide) (he : starEach (e :: es) X.env = (false, eval e X.env) :: starEach es X.env := by rfl) (hpl : (backTo pos (starEach es X.env)).any (·.1) = false := by rfl) :
    PE X (.Call (.Name x p) (e :: es) [] pos) (tCall sp [] E0 t) := by
  constructor
  intro pins s σ H Q I h
  refine wpAny_Call_Name_kw (ld_glob I hg hm ?_ hdb)
  refine PySem.W.callWith_K (h₀ := X.base) I.ok.mod.kin hk (thn (ha.run pos pins s σ H _ I h) ?_) he hpl
  rintro us s1 ⟨vs, H1, I1, r, q⟩
  refine ⟨I1.kIn, ?_⟩
  have q2 : sp vs H1 Q E0 := by
    have q3 : sp (vs ++ []) H1 Q E0 := q
    rwa [List.append_nil] at q3
  have hl : (us ++ []).length = ps.length := by
    rw [List.append_nil, ← r.length]
    exact F.arity _ _ _ _ q2
  have hb2 := hb s1 us I1.kIn hl
  rw [List.append_nil] at hb2
  refine wpAny_call (codeAny_mono (F.go X.A hr hgd X.stack s1 H1 ⟨us, []⟩ us vs Q E0 I1.env0 hb2 r q2) ?_)
  intro z s2 hz
  match z, hz with
  | .ok (.ret u), hz => exact I1.after hz
  | .error _, hz => exact hz.elim
end
/-- the law's own call -/
theorem call_lawG {P : Program} {w : World} {K : PySem.W.Frag} {mg mb : Str → Option Value} {k : Nat} {fa a : Addr} {fd : FuncData} {x : Str} {sp : Sp} {z : Shared} {vs : List Value} {ns : List Int}
    (kin : K.In z.heap) (gl : z.heap.Ns mainGlobals mg) (bl : z.heap.Ns builtinsNs mb) (bb : ∀ x : Str, x ≠ "__name__" → mb x = bootBuiltins x) (nolim : z.heap.NoLimit) (gens : z.gens = #[])
    (ha : z.heap.get? a = some { cls := .type "list", data := .seq vs.toArray }) (iv : IntsAre vs ns) (small : ns.length ≤ sizeLine) (hr : Room k callerA)
    (F : ∀ base : Heap, K.In base → base.Ns mainGlobals mg → FnG P w K mg base k fa fd [x] sp) (bind : ∀ (s : Shared) (u : Value), BindsTo s fd ⟨[u], []⟩ [(x, u)])
    (hsp : ∀ H : Hp, SqL K H a (ns.map V.int) → sp [.ref a] H (fun v _ => v = .bl true) E0) :
    codeAny (model P w) callerA (.call (.ref fa) ⟨[.ref a], []⟩) (fun r s' => r = .ok (.ret (.bool true)) ∧ OldK z.heap s'.heap ∧ s'.os = z.os ∧ AllBare s'.gens) z := by
  have rv := vals_of_ints iv
  have hlen := iv.length
  -- the script alone is tracked (or nothing is)
  have main : ∀ H : Hp, (∀ b, H b = none ∨ ∃ o xs, H b = some (.frz o (.lst xs))) → SqL K H a (ns.map V.int) → HOk P w H z.heap → (∀ b, b ≠ a → H b = none) → (K.lookup a ≠ none → H a = none) →
      codeAny (model P w) callerA (.call (.ref fa) ⟨[.ref a], []⟩) (fun r s' => r = .ok (.ret (.bool true)) ∧ OldK z.heap s'.heap ∧ s'.os = z.os ∧ AllBare s'.gens) z := by
    intro H only hS hok off hK
    have notD : ∀ {b : Addr} {o : Obj} {es : Array DictEntry} {ep : Nat}, z.heap.get? b = some o → o.data = .dict es ep → H b = none := by
      intro b o es ep e d
      by_cases hb : b = a
      · subst hb
        rw [ha] at e
        cases e
        exact absurd (show Data.seq vs.toArray _ = Data.dict es ep from d) (by intro q; cases q)
      · exact off b hb
    have nsB : ∀ {b : Addr} {m : Str → Option Value}, z.heap.Ns b m → (hidT z.heap H).Ns b m := by
      rintro b m ⟨o, es, ep, e, d, r⟩
      exact ⟨o, es, ep, hidT_get e (notD e d), d, r⟩
    have kinB : K.In (hidT z.heap H) := by
      intro b o e
      refine hidT_get (kin b o e) ?_
      by_cases hb : b = a
      · subst hb
        exact hK (by rw [e]; simp)
      · exact off b hb
    obtain ⟨mc, c1, c2⟩ := nolim
    have hM : Mod K mg (hidT z.heap H) := ⟨kinB, nsB gl, ⟨mb, nsB bl, bb⟩, ⟨mc, nsB c1, c2⟩⟩
    have e0 : Env0 P w K mg (hidT z.heap H) callerA [] z H :=
      { frames := rfl, mod := hM, bs := fun b o e => of_hidT e, bsz := Nat.le_of_eq (hidT_size _ _), funs := trivial, frf := fun b hb => absurd (show b ∈ ([] : List Addr) from hb) List.not_mem_nil, hok := hok, bare := .of_eq gens }
    refine codeAny_mono ((F _ kinB (nsB gl)).go callerA hr rfl [] z H ⟨[.ref a], []⟩ [.ref a] [.ref a] _ _ e0 (bind z (.ref a)) (.cons rfl .nil) (hsp H hS)) ?_
    intro r s' h
    match r, h with
    | .error _, h => exact h.elim
    | .ok (.ret u), h =>
      obtain ⟨v, H', os, bare, un, hok', rel, q⟩ := h
      obtain rfl : v = .bl true := q
      obtain rfl : u = Value.bool true := rel
      refine ⟨rfl, OldK.of_keep ?_, os, bare⟩
      intro b o e
      cases hb : H b with
      | none => exact un.keep b o e hb (show b ∉ ([] : List Addr) from List.not_mem_nil) (by simp)
      | some u =>
        rcases only b with y | ⟨ob, xs, y⟩
        · rw [hb] at y
          cases y
        · have y2 := un.frzs b ob _ y
          obtain ⟨e1, _⟩ := hok b _ y
          obtain ⟨e2, _⟩ := hok' b _ y2
          rw [e] at e1
          cases e1
          exact e2
  cases hk : K.lookup a with
  | some o =>
    have e := kin a o hk
    rw [ha] at e
    cases e
    exact main (fun _ => none) (fun _ => .inl rfl) (.inr ⟨_, vs.toArray, _, hk, rfl, rfl, rfl, by rw [List.size_toArray, hlen]; exact small, by simpa using rv⟩) (fun b u y => nomatch (show (none : Option HO) = some u from y)) (fun _ _ => rfl) fun _ => rfl
  | none =>
    refine main (fun b => if b = a then some (.frz { cls := .type "list", data := .seq vs.toArray } (.lst (ns.map V.int))) else none) ?_ (.inl (.inr ⟨{ cls := .type "list", data := .seq vs.toArray }, if_pos rfl⟩)) ?_ (fun b hb => if_neg hb) fun y => absurd hk y
    · intro b
      by_cases hb : b = a
      · exact .inr ⟨_, _, if_pos hb⟩
      · exact .inl (if_neg hb)
    · intro b u y
      by_cases hb : b = a
      · have y2 := (if_pos hb).symm.trans y
        cases y2
        subst hb
        exact ⟨ha, by rw [List.length_map]; exact small, vs, _, rv, ha⟩
      · have y2 := (if_neg hb).symm.trans y
        cases y2
/-- what the head leaves, from the law's promise -/
theorem walkG {l : PySem.W.OpenLaw} {n k : Nat} {q : Program} {loose : List Str} {XP : (Str → Option Value) → Heap → Prop} {YP : World → Heap → Prop} {d : DefRec} {K : Params → PySem.W.Frag} {sp : PySem.W.Frag → Sp} {x : Str}
    (hn : l.most = some n) (hn2 : n ≤ sizeLine) (hdf : d.params.defaults = []) (hr : Room k callerA) (hY : ∀ (w : World) (h : Heap), YP w h → (K w.params).In h)
    (F : ∀ (w : World) (mg : Str → Option Value) (fa : Addr) (h : Heap), (K w.params).In h → h.Ns mainGlobals mg → mg d.name = some (.ref fa) →
      ∃ fd : FuncData, (∀ (s : Shared) (u : Value), BindsTo s fd ⟨[u], []⟩ [(x, u)]) ∧ ∀ base : Heap, (K w.params).In base → base.Ns mainGlobals mg → FnG l.prog w (K w.params) mg base k fa fd [x] (sp (K w.params)))
    (hsp : ∀ (K : PySem.W.Frag) (H : Hp) (a : Addr) (ns : List Int), ns.length ≤ n → SqL K H a (ns.map V.int) → sp K [.ref a] H (fun v _ => v = .bl true) E0) :
    PySem.W.WalkO q loose XP YP l.row.toRowW d [] (fun f vs => PySem.call f vs) := by
  refine Att.attach_call hn hdf ?_
  intro w s0 s1 mg mb fa o pm cd doc a vs ns G Y ho hd hcd hmg hobj iv small gens
  obtain ⟨fd, hb, hF⟩ := F w mg fa _ (hY w _ Y) G.T.g hmg
  exact call_lawG (hY w _ Y) G.T.g G.T.b G.T.builtins G.T.nolimit gens hobj iv (Nat.le_trans small hn2) hr hF hb fun H hS => hsp _ H a ns small hS
end K68
/-! the text, by places; what the walk leans on (Tx) -/
namespace K68
open PySem PySem.Spec PyProof.Rows L2
def topS (i : Nat) : Stmt := PySem.Challenge.pw_toldcounts_k68_whole_counts_by_trying.main.body.getD i (.Pass ⟨0, 0, 0, 0⟩)
abbrev s_is_integer : Stmt := topS 11
abbrev n_is_integer : List Str := ["value"]
theorem sc_is_integer : FnScope n_is_integer ["value"] (defScope s_is_integer) := ⟨rfl, rfl, rfl, by decide +kernel, rfl, by decide +kernel, by decide +kernel⟩
abbrev s_is_within : Stmt := topS 12
abbrev n_is_within : List Str := ["value", "least", "greatest"]
theorem sc_is_within : FnScope n_is_within ["value", "least", "greatest"] (defScope s_is_within) := ⟨rfl, rfl, rfl, by decide +kernel, rfl, by decide +kernel, by decide +kernel⟩
abbrev s_is_natural : Stmt := topS 13
abbrev n_is_natural : List Str := ["value"]
theorem sc_is_natural : FnScope n_is_natural ["value"] (defScope s_is_natural) := ⟨rfl, rfl, rfl, by decide +kernel, rfl, by decide +kernel, by decide +kernel⟩
abbrev s_is_tuple_of : Stmt := topS 14
abbrev n_is_tuple_of : List Str := ["value", "many"]
theorem sc_is_tuple_of : FnScope n_is_tuple_of ["value", "many"] (defScope s_is_tuple_of) := ⟨rfl, rfl, rfl, by decide +kernel, rfl, by decide +kernel, by decide +kernel⟩
abbrev s_are_naturals : Stmt := topS 15
abbrev n_are_naturals : List Str := ["value", "many", "own"]
theorem sc_are_naturals : FnScope n_are_naturals ["value", "many"] (defScope s_are_naturals) := ⟨rfl, rfl, rfl, by decide +kernel, rfl, by decide +kernel, by decide +kernel⟩
abbrev s_numbers_text : Stmt := topS 16
abbrev n_numbers_text : List Str := ["numbers", "number"]
theorem sc_numbers_text : FnScope n_numbers_text ["numbers"] (defScope s_numbers_text) := ⟨rfl, rfl, rfl, by decide +kernel, rfl, by decide +kernel, by decide +kernel⟩
abbrev s_next_whole : Stmt := topS 17
abbrev n_next_whole : List Str := ["top", "bottom"]
theorem sc_next_whole : FnScope n_next_whole ["top", "bottom"] (defScope s_next_whole) := ⟨rfl, rfl, rfl, by decide +kernel, rfl, by decide +kernel, by decide +kernel⟩
abbrev s_check_people : Stmt := topS 19
abbrev n_check_people : List Str := ["value"]
theorem sc_check_people : FnScope n_check_people ["value"] (defScope s_check_people) := ⟨rfl, rfl, rfl, by decide +kernel, rfl, by decide +kernel, by decide +kernel⟩
abbrev s_check_poll_places : Stmt := topS 22
abbrev n_check_poll_places : List Str := ["value"]
theorem sc_check_poll_places : FnScope n_check_poll_places ["value"] (defScope s_check_poll_places) := ⟨rfl, rfl, rfl, by decide +kernel, rfl, by decide +kernel, by decide +kernel⟩
abbrev s_check_shares : Stmt := topS 23
abbrev n_check_shares : List Str := ["value", "unit", "index", "share"]
theorem sc_check_shares : FnScope n_check_shares ["value", "unit"] (defScope s_check_shares) := ⟨rfl, rfl, rfl, by decide +kernel, rfl, by decide +kernel, by decide +kernel⟩
abbrev s_check_poll : Stmt := topS 24
abbrev n_check_poll : List Str := ["value"]
theorem sc_check_poll : FnScope n_check_poll ["value"] (defScope s_check_poll) := ⟨rfl, rfl, rfl, by decide +kernel, rfl, by decide +kernel, by decide +kernel⟩
abbrev s_unit_of : Stmt := topS 26
abbrev n_unit_of : List Str := ["poll"]
theorem sc_unit_of : FnScope n_unit_of ["poll"] (defScope s_unit_of) := ⟨rfl, rfl, rfl, by decide +kernel, rfl, by decide +kernel, by decide +kernel⟩
abbrev s_poll_of : Stmt := topS 27
abbrev n_poll_of : List Str := ["counts", "places", "people", "count"]
theorem sc_poll_of : FnScope n_poll_of ["counts", "places"] (defScope s_poll_of) := ⟨rfl, rfl, rfl, by decide +kernel, rfl, by decide +kernel, by decide +kernel⟩
abbrev s_share_ends : Stmt := topS 28
abbrev n_share_ends : List Str := ["share", "people", "unit", "least"]
theorem sc_share_ends : FnScope n_share_ends ["share", "people", "unit"] (defScope s_share_ends) := ⟨rfl, rfl, rfl, by decide +kernel, rfl, by decide +kernel, by decide +kernel⟩
abbrev s_count_stretch : Stmt := topS 29
abbrev n_count_stretch : List Str := ["share", "people", "places", "least", "greatest"]
theorem sc_count_stretch : FnScope n_count_stretch ["share", "people", "places"] (defScope s_count_stretch) := ⟨rfl, rfl, rfl, by decide +kernel, rfl, by decide +kernel, by decide +kernel⟩
abbrev s_all_ends : Stmt := topS 31
abbrev n_all_ends : List Str := ["poll", "people", "unit", "share"]
theorem sc_all_ends : FnScope n_all_ends ["poll", "people"] (defScope s_all_ends) := ⟨rfl, rfl, rfl, by decide +kernel, rfl, by decide +kernel, by decide +kernel⟩
abbrev s_does_fit : Stmt := topS 32
abbrev n_does_fit : List Str := ["poll", "people", "ends", "least", "greatest"]
theorem sc_does_fit : FnScope n_does_fit ["poll", "people"] (defScope s_does_fit) := ⟨rfl, rfl, rfl, by decide +kernel, rfl, by decide +kernel, by decide +kernel⟩
abbrev s_does_fit_people : Stmt := topS 33
abbrev n_does_fit_people : List Str := ["poll", "people"]
theorem sc_does_fit_people : FnScope n_does_fit_people ["poll", "people"] (defScope s_does_fit_people) := ⟨rfl, rfl, rfl, by decide +kernel, rfl, by decide +kernel, by decide +kernel⟩
abbrev s_first_counts : Stmt := topS 34
abbrev n_first_counts : List Str := ["poll", "people", "ends", "rest", "found", "index", "least", "greatest", "own", "few", "most"]
theorem sc_first_counts : FnScope n_first_counts ["poll", "people"] (defScope s_first_counts) := ⟨rfl, rfl, rfl, by decide +kernel, rfl, by decide +kernel, by decide +kernel⟩
abbrev s__law_well : Stmt := topS 36
abbrev n__law_well : List Str := ["_law_script", "_law_k", "_law_own", "_law_mixed", "_law_each"]
theorem sc__law_well : FnScope n__law_well ["_law_script", "_law_k"] (defScope s__law_well) := ⟨rfl, rfl, rfl, by decide +kernel, rfl, by decide +kernel, by decide +kernel⟩
abbrev s__law_draw : Stmt := topS 37
abbrev n__law_draw : List Str := ["_law_well_here", "_law_top", "_law_old", "_law_figure"]
theorem sc__law_draw : FnScope n__law_draw ["_law_well_here", "_law_top"] (defScope s__law_draw) := ⟨rfl, rfl, rfl, by decide +kernel, rfl, by decide +kernel, by decide +kernel⟩
abbrev s__law_of : Stmt := topS 38
abbrev n__law_of : List Str := ["_law_well_here", "_law_menu"]
theorem sc__law_of : FnScope n__law_of ["_law_well_here", "_law_menu"] (defScope s__law_of) := ⟨rfl, rfl, rfl, by decide +kernel, rfl, by decide +kernel, by decide +kernel⟩
abbrev s__law_near : Stmt := topS 39
abbrev n__law_near : List Str := ["_law_unit", "_law_one", "_law_people"]
theorem sc__law_near : FnScope n__law_near ["_law_unit", "_law_one", "_law_people"] (defScope s__law_near) := ⟨rfl, rfl, rfl, by decide +kernel, rfl, by decide +kernel, by decide +kernel⟩
abbrev s__law_shares_of : Stmt := topS 40
abbrev n__law_shares_of : List Str := ["_law_unit", "_law_counts_here", "_law_people", "_law_one"]
theorem sc__law_shares_of : FnScope n__law_shares_of ["_law_unit", "_law_counts_here"] (defScope s__law_shares_of) := ⟨rfl, rfl, rfl, by decide +kernel, rfl, by decide +kernel, by decide +kernel⟩
abbrev s__law_tried : Stmt := topS 41
abbrev n__law_tried : List Str := ["_law_many", "_law_people", "_law_found", "_law_turn", "_law_longer", "_law_own", "_law_one"]
theorem sc__law_tried : FnScope n__law_tried ["_law_many", "_law_people"] (defScope s__law_tried) := ⟨rfl, rfl, rfl, by decide +kernel, rfl, by decide +kernel, by decide +kernel⟩
abbrev s__law_dealt : Stmt := topS 42
abbrev n__law_dealt : List Str := ["_law_well_here", "_law_many", "_law_people", "_law_found", "_law_rest", "_law_turn", "_law_at"]
theorem sc__law_dealt : FnScope n__law_dealt ["_law_well_here", "_law_many", "_law_people"] (defScope s__law_dealt) := ⟨rfl, rfl, rfl, by decide +kernel, rfl, by decide +kernel, by decide +kernel⟩
abbrev s__law_shares : Stmt := topS 43
abbrev n__law_shares : List Str := ["_law_well_here", "_law_unit", "_law_many", "_law_people", "_law_way", "_law_at", "_law_found", "_law_share"]
theorem sc__law_shares : FnScope n__law_shares ["_law_well_here", "_law_unit", "_law_many", "_law_people"] (defScope s__law_shares) := ⟨rfl, rfl, rfl, by decide +kernel, rfl, by decide +kernel, by decide +kernel⟩
abbrev s__law_fits_right : Stmt := topS 44
abbrev n__law_fits_right : List Str := ["_law_unit", "_law_shares_here", "_law_people", "_law_mine", "_law_due", "_law_first", "_law_told", "_law_own"]
theorem sc__law_fits_right : FnScope n__law_fits_right ["_law_unit", "_law_shares_here", "_law_people"] (defScope s__law_fits_right) := ⟨rfl, rfl, rfl, by decide +kernel, rfl, by decide +kernel, by decide +kernel⟩
abbrev s__law_counts : Stmt := topS 45
abbrev n__law_counts : List Str := ["_law_well_here", "_law_unit", "_law_many", "_law_way", "_law_found", "_law_times", "_law_odd", "_law_turn"]
theorem sc__law_counts : FnScope n__law_counts ["_law_well_here", "_law_unit", "_law_many"] (defScope s__law_counts) := ⟨rfl, rfl, rfl, by decide +kernel, rfl, by decide +kernel, by decide +kernel⟩
abbrev s__law_poll_right : Stmt := topS 46
abbrev n__law_poll_right : List Str := ["_law_well_here", "_law_unit", "_law_many", "_law_counts_here", "_law_places", "_law_found", "_law_due", "_law_mate"]
theorem sc__law_poll_right : FnScope n__law_poll_right ["_law_well_here", "_law_unit", "_law_many"] (defScope s__law_poll_right) := ⟨rfl, rfl, rfl, by decide +kernel, rfl, by decide +kernel, by decide +kernel⟩
abbrev s__law_stretch_right : Stmt := topS 47
abbrev n__law_stretch_right : List Str := ["_law_well_here", "_law_unit", "_law_people", "_law_share", "_law_places", "_law_own", "_law_due", "_law_told", "_law_one"]
theorem sc__law_stretch_right : FnScope n__law_stretch_right ["_law_well_here", "_law_unit"] (defScope s__law_stretch_right) := ⟨rfl, rfl, rfl, by decide +kernel, rfl, by decide +kernel, by decide +kernel⟩
abbrev s__law_right : Stmt := topS 48
abbrev n__law_right : List Str := ["_law_well_here", "_law_turn", "_law_unit", "_law_many", "_law_top", "_law_people", "_law_shares_here"]
theorem sc__law_right : FnScope n__law_right ["_law_well_here"] (defScope s__law_right) := ⟨rfl, rfl, rfl, by decide +kernel, rfl, by decide +kernel, by decide +kernel⟩
abbrev s_law : Stmt := topS 49
abbrev n_law : List Str := ["_law_script", "_law_k"]
theorem sc_law : FnScope n_law ["_law_script"] (defScope s_law) := ⟨rfl, rfl, rfl, by decide +kernel, rfl, by decide +kernel, by decide +kernel⟩
abbrev s_pinit : Stmt := inClass (topS 25) 0
theorem sc_pinit : FnScope ["self", "places", "shares"] ["self", "places", "shares"] (defScope s_pinit) := ⟨rfl, rfl, rfl, by decide +kernel, rfl, by decide +kernel, by decide +kernel⟩
abbrev s_pplaces : Stmt := inClass (topS 25) 2
theorem sc_pplaces : FnScope ["self"] ["self"] (defScope s_pplaces) := ⟨rfl, rfl, rfl, by decide +kernel, rfl, by decide +kernel, by decide +kernel⟩
abbrev s_pshares : Stmt := inClass (topS 25) 3
theorem sc_pshares : FnScope ["self"] ["self"] (defScope s_pshares) := ⟨rfl, rfl, rfl, by decide +kernel, rfl, by decide +kernel, by decide +kernel⟩
abbrev s_ptext : Stmt := inClass (topS 25) 4
theorem sc_ptext : FnScope ["self"] ["self"] (defScope s_ptext) := ⟨rfl, rfl, rfl, by decide +kernel, rfl, by decide +kernel, by decide +kernel⟩
abbrev s_peq : Stmt := inClass (topS 25) 7
theorem sc_peq : FnScope ["self", "other"] ["self", "other"] (defScope s_peq) := ⟨rfl, rfl, rfl, by decide +kernel, rfl, by decide +kernel, by decide +kernel⟩
/-- a def of the module, under its name -/
structure DefM (K : PySem.W.Frag) (mg : Str → Option Value) (x : Str) (st : Stmt) : Prop where
  ex : ∃ (f : Addr) (fd : FuncData), Fun K x x st f fd ∧ mg x = some (.ref f)
/-- a method of the class at C -/
structure DefP (K : PySem.W.Frag) (C : Addr) (m qual : Str) (st : Stmt) (f : Addr) : Prop where
  ex : ∃ fd : FuncData, Fun K m qual st f fd
  at_ : PySem.W.findIn K (.ref C) m = some (some (.ref f))
  fn : PySem.W.isFn K (.ref f) = true
/-- a def that may be called by its name -/
structure Cl (P : Program) (w : World) (K : PySem.W.Frag) (mg : Str → Option Value) (base : Heap) (k : Nat) (x : Str) (ps : List Str) (sp : Sp) : Prop where
  ex : ∃ (f : Addr) (fd : FuncData), FnOk P w K mg base CX0 k f fd ps sp ∧ mg x = some (.ref f) ∧ PySem.W.keepIn K (.ref f) = true ∧ Binds K fd ps [] ∧ ∃ (oc : Value) (od : Option Addr) (osl : Array (Option Value)), K.lookup f = some ⟨oc, od, .func fd, osl⟩
/-- the same, where nothing is being shown around -/
structure ClG (P : Program) (w : World) (K : PySem.W.Frag) (mg : Str → Option Value) (base : Heap) (k : Nat) (x : Str) (ps : List Str) (sp : Sp) : Prop where
  ex : ∃ (f : Addr) (fd : FuncData), FnG P w K mg base k f fd ps sp ∧ mg x = some (.ref f) ∧ PySem.W.keepIn K (.ref f) = true ∧ Binds K fd ps []
section
variable {X : Cx} {k j : Nat} {x : Str} {ps : List Str} {sp : Sp} {p pos : Pos} {e : Expr} {es : List Expr} {t : TA}
theorem pc (c : Cl X.prog X.w X.K X.mg X.base k x ps sp) (hr : Room j X.A) (hk : k ≤ j) (hg : Gl X x) (ha : PA X (e :: es) t) (hdb : (x == ("__debug__" : Str)) = false := by decide)
    (he : starEach (e :: es) X.env = (false, eval e X.env) :: starEach es X.env := by rfl) (hpl : (backTo pos (starEach es X.env)).any (·.1) = false := by rfl) : PE X (.Call (.Name x p) (e :: es) [] pos) (tCall sp [] E0 t) := by
  obtain ⟨f, fd, F, hm, kp, b, _⟩ := c.ex
  exact pe_call F (hr.mono hk) hg hm kp b .nil pass0 ha hdb he hpl
theorem pcG (c : ClG X.prog X.w X.K X.mg X.base k x ps sp) (hr : Room j X.A) (hk : k ≤ j) (hgd : X.A.guards = some []) (hg : Gl X x) (ha : PA X (e :: es) t) (hdb : (x == ("__debug__" : Str)) = false := by decide)
    (he : starEach (e :: es) X.env = (false, eval e X.env) :: starEach es X.env := by rfl) (hpl : (backTo pos (starEach es X.env)).any (·.1) = false := by rfl) : PE X (.Call (.Name x p) (e :: es) [] pos) (tCall sp [] E0 t) := by
  obtain ⟨f, fd, F, hm, kp, b⟩ := c.ex
  exact pe_callG F (hr.mono hk) hgd hg hm kp b ha hdb he hpl
end
section
variable {P : Program} {w : World} {K : PySem.W.Frag} {mg : Str → Option Value} {base : Heap}
/-- how the arguments of a def without defaults bind -/
abbrev Bi (x qual : Str) (st : Stmt) (ps : List Str) : Prop := ∀ (kV doc pm : Value) (an : Option Addr) (cdv ct : Value) (us : List Value), us.length = ps.length → bindArgs (PySem.W.fnOf x qual (defArgs st) (defBody st) (defScope st) .none kV doc pm an cdv ct) ⟨us, []⟩ = pure (ps.zip us)
theorem cl_of {x : Str} {st : Stmt} {N ps : List Str} {k : Nat} {sp : Sp} (d : DefM K mg x st) (S : FnScope N ps (defScope st)) (hb : Bi x x st ps) (ar : ∀ vs H Q E, sp vs H Q E → vs.length = ps.length)
    (bd : ∀ (f : Addr) (cdv : Value) (A : Around) (outer : List Env) (s : Shared) (H : Hp) (vs : List V) (Q : VK) (E : XK), Room k (A.deeper (envOfC x (defScope st) s.heap.objs.size f cdv)) → sp vs H Q E →
      ∃ t, PSs (cxOf CX0 P w K mg base N x (defScope st) f cdv A outer s H E).nox (defBody st) t ∧ t { nx := fun _ H' => Q .non H', rt := Q } (start N vs) H) : Cl P w K mg base (k + 1) x ps sp := by
  obtain ⟨f, fd, F, hm⟩ := d.ex
  have lk : ∃ (oc : Value) (od : Option Addr) (osl : Array (Option Value)), K.lookup f = some ⟨oc, od, .func fd, osl⟩ := by
    obtain ⟨oc, od, _, _, _, _, _, _, osl, _, e, _⟩ := F.ex
    exact ⟨oc, od, osl, e⟩
  exact ⟨f, fd, F.ok S ar fun cdv A outer s H vs Q E hr h => bd f cdv A outer s H vs Q E hr h, hm, F.kp, F.binds hb, lk⟩
theorem clG_of {x : Str} {st : Stmt} {N ps : List Str} {k : Nat} {sp : Sp} (d : DefM K mg x st) (S : FnScope N ps (defScope st)) (hb : Bi x x st ps) (ar : ∀ vs H Q E, sp vs H Q E → vs.length = ps.length)
    (bd : ∀ (f : Addr) (cdv : Value) (A : Around) (outer : List Env) (s : Shared) (H : Hp) (vs : List V) (Q : VK) (E : XK), Room k (A.deeper (envOfC x (defScope st) s.heap.objs.size f cdv)) →
      (A.deeper (envOfC x (defScope st) s.heap.objs.size f cdv)).guards = some [] → sp vs H Q E →
      ∃ t, PSs (cxOf CX0 P w K mg base N x (defScope st) f cdv A outer s H E).nox (defBody st) t ∧ t { nx := fun _ H' => Q .non H', rt := Q } (start N vs) H) : ClG P w K mg base (k + 1) x ps sp := by
  obtain ⟨f, fd, F, hm⟩ := d.ex
  exact ⟨f, fd, okG F S ar fun cdv A outer s H vs Q E hr hg h => bd f cdv A outer s H vs Q E hr hg h, hm, F.kp, F.binds hb⟩
end
theorem bi_is_integer : Bi "is_integer" "is_integer" s_is_integer ["value"] := fun _ _ _ _ _ _ us hl => match us, hl with | [_], _ => rfl
theorem bi_is_within : Bi "is_within" "is_within" s_is_within ["value", "least", "greatest"] := fun _ _ _ _ _ _ us hl => match us, hl with | [_, _, _], _ => rfl
theorem bi_is_natural : Bi "is_natural" "is_natural" s_is_natural ["value"] := fun _ _ _ _ _ _ us hl => match us, hl with | [_], _ => rfl
theorem bi_is_tuple_of : Bi "is_tuple_of" "is_tuple_of" s_is_tuple_of ["value", "many"] := fun _ _ _ _ _ _ us hl => match us, hl with | [_, _], _ => rfl
theorem bi_are_naturals : Bi "are_naturals" "are_naturals" s_are_naturals ["value", "many"] := fun _ _ _ _ _ _ us hl => match us, hl with | [_, _], _ => rfl
theorem bi_numbers_text : Bi "numbers_text" "numbers_text" s_numbers_text ["numbers"] := fun _ _ _ _ _ _ us hl => match us, hl with | [_], _ => rfl
theorem bi_next_whole : Bi "next_whole" "next_whole" s_next_whole ["top", "bottom"] := fun _ _ _ _ _ _ us hl => match us, hl with | [_, _], _ => rfl
theorem bi_check_people : Bi "check_people" "check_people" s_check_people ["value"] := fun _ _ _ _ _ _ us hl => match us, hl with | [_], _ => rfl
theorem bi_check_poll_places : Bi "check_poll_places" "check_poll_places" s_check_poll_places ["value"] := fun _ _ _ _ _ _ us hl => match us, hl with | [_], _ => rfl
theorem bi_check_shares : Bi "check_shares" "check_shares" s_check_shares ["value", "unit"] := fun _ _ _ _ _ _ us hl => match us, hl with | [_, _], _ => rfl
theorem bi_check_poll : Bi "check_poll" "check_poll" s_check_poll ["value"] := fun _ _ _ _ _ _ us hl => match us, hl with | [_], _ => rfl
theorem bi_unit_of : Bi "unit_of" "unit_of" s_unit_of ["poll"] := fun _ _ _ _ _ _ us hl => match us, hl with | [_], _ => rfl
theorem bi_poll_of : Bi "poll_of" "poll_of" s_poll_of ["counts", "places"] := fun _ _ _ _ _ _ us hl => match us, hl with | [_, _], _ => rfl
theorem bi_share_ends : Bi "share_ends" "share_ends" s_share_ends ["share", "people", "unit"] := fun _ _ _ _ _ _ us hl => match us, hl with | [_, _, _], _ => rfl
theorem bi_count_stretch : Bi "count_stretch" "count_stretch" s_count_stretch ["share", "people", "places"] := fun _ _ _ _ _ _ us hl => match us, hl with | [_, _, _], _ => rfl
theorem bi_all_ends : Bi "all_ends" "all_ends" s_all_ends ["poll", "people"] := fun _ _ _ _ _ _ us hl => match us, hl with | [_, _], _ => rfl
theorem bi_does_fit : Bi "does_fit" "does_fit" s_does_fit ["poll", "people"] := fun _ _ _ _ _ _ us hl => match us, hl with | [_, _], _ => rfl
theorem bi_does_fit_people : Bi "does_fit_people" "does_fit_people" s_does_fit_people ["poll", "people"] := fun _ _ _ _ _ _ us hl => match us, hl with | [_, _], _ => rfl
theorem bi_first_counts : Bi "first_counts" "first_counts" s_first_counts ["poll", "people"] := fun _ _ _ _ _ _ us hl => match us, hl with | [_, _], _ => rfl
theorem bi__law_well : Bi "_law_well" "_law_well" s__law_well ["_law_script", "_law_k"] := fun _ _ _ _ _ _ us hl => match us, hl with | [_, _], _ => rfl
theorem bi__law_draw : Bi "_law_draw" "_law_draw" s__law_draw ["_law_well_here", "_law_top"] := fun _ _ _ _ _ _ us hl => match us, hl with | [_, _], _ => rfl
theorem bi__law_of : Bi "_law_of" "_law_of" s__law_of ["_law_well_here", "_law_menu"] := fun _ _ _ _ _ _ us hl => match us, hl with | [_, _], _ => rfl
theorem bi__law_near : Bi "_law_near" "_law_near" s__law_near ["_law_unit", "_law_one", "_law_people"] := fun _ _ _ _ _ _ us hl => match us, hl with | [_, _, _], _ => rfl
theorem bi__law_shares_of : Bi "_law_shares_of" "_law_shares_of" s__law_shares_of ["_law_unit", "_law_counts_here"] := fun _ _ _ _ _ _ us hl => match us, hl with | [_, _], _ => rfl
theorem bi__law_tried : Bi "_law_tried" "_law_tried" s__law_tried ["_law_many", "_law_people"] := fun _ _ _ _ _ _ us hl => match us, hl with | [_, _], _ => rfl
theorem bi__law_dealt : Bi "_law_dealt" "_law_dealt" s__law_dealt ["_law_well_here", "_law_many", "_law_people"] := fun _ _ _ _ _ _ us hl => match us, hl with | [_, _, _], _ => rfl
theorem bi__law_shares : Bi "_law_shares" "_law_shares" s__law_shares ["_law_well_here", "_law_unit", "_law_many", "_law_people"] := fun _ _ _ _ _ _ us hl => match us, hl with | [_, _, _, _], _ => rfl
theorem bi__law_fits_right : Bi "_law_fits_right" "_law_fits_right" s__law_fits_right ["_law_unit", "_law_shares_here", "_law_people"] := fun _ _ _ _ _ _ us hl => match us, hl with | [_, _, _], _ => rfl
theorem bi__law_counts : Bi "_law_counts" "_law_counts" s__law_counts ["_law_well_here", "_law_unit", "_law_many"] := fun _ _ _ _ _ _ us hl => match us, hl with | [_, _, _], _ => rfl
theorem bi__law_poll_right : Bi "_law_poll_right" "_law_poll_right" s__law_poll_right ["_law_well_here", "_law_unit", "_law_many"] := fun _ _ _ _ _ _ us hl => match us, hl with | [_, _, _], _ => rfl
theorem bi__law_stretch_right : Bi "_law_stretch_right" "_law_stretch_right" s__law_stretch_right ["_law_well_here", "_law_unit"] := fun _ _ _ _ _ _ us hl => match us, hl with | [_, _], _ => rfl
theorem bi__law_right : Bi "_law_right" "_law_right" s__law_right ["_law_well_here"] := fun _ _ _ _ _ _ us hl => match us, hl with | [_], _ => rfl
theorem bi_law : Bi "law" "law" s_law ["_law_script"] := fun _ _ _ _ _ _ us hl => match us, hl with | [_], _ => rfl
theorem bi_pinit : Bi "__init__" "Poll.__init__" s_pinit ["self", "places", "shares"] := fun _ _ _ _ _ _ us hl => match us, hl with | [_, _, _], _ => rfl
theorem bi_pplaces : Bi "places" "Poll.places" s_pplaces ["self"] := fun _ _ _ _ _ _ us hl => match us, hl with | [_], _ => rfl
theorem bi_pshares : Bi "shares" "Poll.shares" s_pshares ["self"] := fun _ _ _ _ _ _ us hl => match us, hl with | [_], _ => rfl
theorem bi_ptext : Bi "text" "Poll.text" s_ptext ["self"] := fun _ _ _ _ _ _ us hl => match us, hl with | [_], _ => rfl
theorem bi_peq : Bi "__eq__" "Poll.__eq__" s_peq ["self", "other"] := fun _ _ _ _ _ _ us hl => match us, hl with | [_, _], _ => rfl
/-- what the top has left of the class Poll -/
structure TxP (K : PySem.W.Frag) (mg : Str → Option Value) (C f_init f_eq p_places p_shares p_text g_places g_shares g_text : Addr) : Prop where
  poll : mg "Poll" = some (.ref C)
  cl : Cls K C
  made : Mk K C f_init
  init : ∃ fd : FuncData, Fun K "__init__" "Poll.__init__" s_pinit f_init fd
  eq : ∃ fd : FuncData, Fun K "__eq__" "Poll.__eq__" s_peq f_eq fd
  eqAt : PySem.W.findIn K (.ref C) "__eq__" = some (some (.ref f_eq))
  eqFn : PySem.W.isFn K (.ref f_eq) = true
  places : PropOf K C "places" p_places g_places
  gplaces : ∃ fd : FuncData, Fun K "places" "Poll.places" s_pplaces g_places fd
  shares : PropOf K C "shares" p_shares g_shares
  gshares : ∃ fd : FuncData, Fun K "shares" "Poll.shares" s_pshares g_shares fd
  text : PropOf K C "text" p_text g_text
  gtext : ∃ fd : FuncData, Fun K "text" "Poll.text" s_ptext g_text fd
  nP : NoAttr K C "own_places"
  nS : NoAttr K C "own_shares"
  nT : NoAttr K C "own_text"
  isC : C8.InsC K C
structure PollM (K : PySem.W.Frag) (mg : Str → Option Value) : Prop where
  ex : ∃ C f_init f_eq p_places p_shares p_text g_places g_shares g_text : Addr, TxP K mg C f_init f_eq p_places p_shares p_text g_places g_shares g_text
structure UnitsM (K : PySem.W.Frag) (mg : Str → Option Value) : Prop where
  ex : ∃ u : Addr, mg "UNITS" = some (.ref u) ∧ ∀ H : Hp, SqT K H u [.int 100, .int 1000]
structure MostM (K : PySem.W.Frag) (mg : Str → Option Value) : Prop where
  ex : ∃ t, mg "MOST_SHARES" = some (.int 6 t)
/-- what the top has left of it -/
structure Tx (K : PySem.W.Frag) (mg : Str → Option Value) (C f_init f_eq p_places p_shares p_text g_places g_shares g_text : Addr) : Prop extends TxP K mg C f_init f_eq p_places p_shares p_text g_places g_shares g_text where
  b_isinstance : mg "isinstance" = none
  b_int : mg "int" = none
  b_bool : mg "bool" = none
  b_tuple : mg "tuple" = none
  b_len : mg "len" = none
  b_all : mg "all" = none
  b_str : mg "str" = none
  b_max : mg "max" = none
  b_min : mg "min" = none
  b_sum : mg "sum" = none
  b_enumerate : mg "enumerate" = none
  b_range : mg "range" = none
  b_list : mg "list" = none
  b_abs : mg "abs" = none
  b_divmod : mg "divmod" = none
  b_repr : mg "repr" = none
  d_is_integer : DefM K mg "is_integer" s_is_integer
  d_is_within : DefM K mg "is_within" s_is_within
  d_is_natural : DefM K mg "is_natural" s_is_natural
  d_is_tuple_of : DefM K mg "is_tuple_of" s_is_tuple_of
  d_are_naturals : DefM K mg "are_naturals" s_are_naturals
  d_numbers_text : DefM K mg "numbers_text" s_numbers_text
  d_next_whole : DefM K mg "next_whole" s_next_whole
  d_check_people : DefM K mg "check_people" s_check_people
  d_check_poll_places : DefM K mg "check_poll_places" s_check_poll_places
  d_check_shares : DefM K mg "check_shares" s_check_shares
  d_check_poll : DefM K mg "check_poll" s_check_poll
  d_unit_of : DefM K mg "unit_of" s_unit_of
  d_poll_of : DefM K mg "poll_of" s_poll_of
  d_share_ends : DefM K mg "share_ends" s_share_ends
  d_count_stretch : DefM K mg "count_stretch" s_count_stretch
  d_all_ends : DefM K mg "all_ends" s_all_ends
  d_does_fit : DefM K mg "does_fit" s_does_fit
  d_does_fit_people : DefM K mg "does_fit_people" s_does_fit_people
  d_first_counts : DefM K mg "first_counts" s_first_counts
  d__law_well : DefM K mg "_law_well" s__law_well
  d__law_draw : DefM K mg "_law_draw" s__law_draw
  d__law_of : DefM K mg "_law_of" s__law_of
  d__law_near : DefM K mg "_law_near" s__law_near
  d__law_shares_of : DefM K mg "_law_shares_of" s__law_shares_of
  d__law_tried : DefM K mg "_law_tried" s__law_tried
  d__law_dealt : DefM K mg "_law_dealt" s__law_dealt
  d__law_shares : DefM K mg "_law_shares" s__law_shares
  d__law_fits_right : DefM K mg "_law_fits_right" s__law_fits_right
  d__law_counts : DefM K mg "_law_counts" s__law_counts
  d__law_poll_right : DefM K mg "_law_poll_right" s__law_poll_right
  d__law_stretch_right : DefM K mg "_law_stretch_right" s__law_stretch_right
  d__law_right : DefM K mg "_law_right" s__law_right
  d_law : DefM K mg "law" s_law
  unitsM : UnitsM K mg
  mostM : MostM K mg
theorem Tx.units {K : PySem.W.Frag} {mg : Str → Option Value} {C fi fe pp ps pt gp gs gt : Addr} (T : Tx K mg C fi fe pp ps pt gp gs gt) : ∃ u : Addr, mg "UNITS" = some (.ref u) ∧ ∀ H : Hp, SqT K H u [.int 100, .int 1000] := T.unitsM.ex
theorem Tx.most {K : PySem.W.Frag} {mg : Str → Option Value} {C fi fe pp ps pt gp gs gt : Addr} (T : Tx K mg C fi fe pp ps pt gp gs gt) : ∃ t, mg "MOST_SHARES" = some (.int 6 t) := T.mostM.ex
end K68
/-! the facts of Tx, from what the head knows of the written part -/
namespace K68
open PySem PySem.Spec PyProof.Rows L2
section
variable {K : PySem.W.Frag} {h : Heap} {mg : Str → Option Value}
theorem defM_mk (X : K.In h) (G : h.Ns mainGlobals mg) {x : Str} {st : Stmt} {f : Addr} {oc : Value} {od an : Option Addr} {osl : Array (Option Value)} {kV doc pm cdv ct : Value} (a : PySem.W.nsIn K mainGlobals x = some (some (.ref f)))
    (l : K.lookup f = some ⟨oc, od, .func (PySem.W.fnOf x x (defArgs st) (defBody st) (defScope st) .none kV doc pm an cdv ct), osl⟩) (c : PySem.W.codeIn K cdv x = true) (k : PySem.W.keepIn K (.ref f) = true) : DefM K mg x st :=
  ⟨f, _, fun_mk l c k, PySem.W.mg_of X G a⟩
theorem kit_self (C : Addr) : PySem.W.kitOne K (.ref C) (.ref C) = some true := by
  unfold PySem.W.kitOne
  rw [if_pos (by simp)]
theorem units_mk (X : K.In h) (G : h.Ns mainGlobals mg) {u : Addr} {dd : Option Addr} {t1 t2 : Tok} {n : Nat} {sl : Array (Option Value)} (a : PySem.W.nsIn K mainGlobals "UNITS" = some (some (.ref u)))
    (l : K.lookup u = some ⟨.type "tuple", dd, .seq #[.int 100 t1, .int 1000 t2] n, sl⟩) : UnitsM (L2.KOf X) mg :=
  ⟨u, PySem.W.mg_of X G a, fun _ => .inr ⟨_, _, n, l, rfl, rfl, (by show 2 ≤ sizeLine; decide), .cons ⟨_, rfl⟩ (.cons ⟨_, rfl⟩ .nil)⟩⟩
theorem most_mk (X : K.In h) (G : h.Ns mainGlobals mg) {t : Tok} (a : PySem.W.nsIn K mainGlobals "MOST_SHARES" = some (some (.int 6 t))) : MostM (L2.KOf X) mg := ⟨t, PySem.W.mg_of X G a⟩
theorem poll_mk (X : K.In h) (G : h.Ns mainGlobals mg) {C f1 f2 q1 q2 q3 g1 g2 g3 : Addr} (aC : PySem.W.nsIn K mainGlobals "Poll" = some (some (.ref C)))
    (pg : PySem.W.plainGet K C Str.empty = true) (hd : PySem.W.hasDictIn K C = true) (po : PySem.W.plainOver K C = true) (sa : PySem.W.findIn K (.ref C) "__setattr__" = some (some (.builtin "object.__setattr__")))
    (mk : PySem.W.makesIn K C = true) (kc : PySem.W.keepIn K (.ref C) = true)
    {oc1 kV1 dc1 pm1 cd1 ct1 : Value} {od1 an1 : Option Addr} {sl1 : Array (Option Value)} (l1 : K.lookup f1 = some ⟨oc1, od1, .func (PySem.W.fnOf "__init__" "Poll.__init__" (defArgs s_pinit) (defBody s_pinit) (defScope s_pinit) .none kV1 dc1 pm1 an1 cd1 ct1), sl1⟩) (c1 : PySem.W.codeIn K cd1 "Poll.__init__" = true) (k1 : PySem.W.keepIn K (.ref f1) = true)
    {oc2 kV2 dc2 pm2 cd2 ct2 : Value} {od2 an2 : Option Addr} {sl2 : Array (Option Value)} (l2 : K.lookup f2 = some ⟨oc2, od2, .func (PySem.W.fnOf "__eq__" "Poll.__eq__" (defArgs s_peq) (defBody s_peq) (defScope s_peq) .none kV2 dc2 pm2 an2 cd2 ct2), sl2⟩) (c2 : PySem.W.codeIn K cd2 "Poll.__eq__" = true) (k2 : PySem.W.keepIn K (.ref f2) = true)
    {oc3 kV3 dc3 pm3 cd3 ct3 : Value} {od3 an3 : Option Addr} {sl3 : Array (Option Value)} (l3 : K.lookup g1 = some ⟨oc3, od3, .func (PySem.W.fnOf "places" "Poll.places" (defArgs s_pplaces) (defBody s_pplaces) (defScope s_pplaces) .none kV3 dc3 pm3 an3 cd3 ct3), sl3⟩) (c3 : PySem.W.codeIn K cd3 "Poll.places" = true) (k3 : PySem.W.keepIn K (.ref g1) = true)
    {oc4 kV4 dc4 pm4 cd4 ct4 : Value} {od4 an4 : Option Addr} {sl4 : Array (Option Value)} (l4 : K.lookup g2 = some ⟨oc4, od4, .func (PySem.W.fnOf "shares" "Poll.shares" (defArgs s_pshares) (defBody s_pshares) (defScope s_pshares) .none kV4 dc4 pm4 an4 cd4 ct4), sl4⟩) (c4 : PySem.W.codeIn K cd4 "Poll.shares" = true) (k4 : PySem.W.keepIn K (.ref g2) = true)
    {oc5 kV5 dc5 pm5 cd5 ct5 : Value} {od5 an5 : Option Addr} {sl5 : Array (Option Value)} (l5 : K.lookup g3 = some ⟨oc5, od5, .func (PySem.W.fnOf "text" "Poll.text" (defArgs s_ptext) (defBody s_ptext) (defScope s_ptext) .none kV5 dc5 pm5 an5 cd5 ct5), sl5⟩) (c5 : PySem.W.codeIn K cd5 "Poll.text" = true) (k5 : PySem.W.keepIn K (.ref g3) = true)
    (a1 : PySem.W.findIn K (.ref C) "__init__" = some (some (.ref f1))) (i1 : PySem.W.isFn K (.ref f1) = true) (a2 : PySem.W.findIn K (.ref C) "__eq__" = some (some (.ref f2))) (i2 : PySem.W.isFn K (.ref f2) = true)
    (b1 : PySem.W.findIn K (.ref C) "places" = some (some (.ref q1))) (e1 : PySem.W.specialIn K (.ref q1) "__get__" = some (some (.builtin "property.__get__"))) (t1 : PySem.W.takesIn K (.ref q1) = some true) {r1 : List Value} (rc1 : PySem.W.recIn K q1 "property" = some (.ref g1 :: r1))
    (b2 : PySem.W.findIn K (.ref C) "shares" = some (some (.ref q2))) (e2 : PySem.W.specialIn K (.ref q2) "__get__" = some (some (.builtin "property.__get__"))) (t2 : PySem.W.takesIn K (.ref q2) = some true) {r2 : List Value} (rc2 : PySem.W.recIn K q2 "property" = some (.ref g2 :: r2))
    (b3 : PySem.W.findIn K (.ref C) "text" = some (some (.ref q3))) (e3 : PySem.W.specialIn K (.ref q3) "__get__" = some (some (.builtin "property.__get__"))) (t3 : PySem.W.takesIn K (.ref q3) = some true) {r3 : List Value} (rc3 : PySem.W.recIn K q3 "property" = some (.ref g3 :: r3))
    (nP : PySem.W.findIn K (.ref C) "own_places" = some none) (nS : PySem.W.findIn K (.ref C) "own_shares" = some none) (nT : PySem.W.findIn K (.ref C) "own_text" = some none)
    (ha : PySem.W.findIn K (.ref C) "__class__" = some (some (.builtin "object.__class__"))) (hn : PySem.W.specialIn K (.builtin "object.__class__") "__get__" = some (some (.builtin "getset_descriptor.__get__")))
    (ht : PySem.W.takesIn K (.builtin "object.__class__") = some true) (hm : PySem.W.mroIn K C (.type "object") = some true) : PollM (L2.KOf X) mg :=
  have cl : Cls K C := ⟨pg, hd, po, sa⟩
  ⟨C, f1, f2, q1, q2, q3, g1, g2, g3, { poll := PySem.W.mg_of X G aC, cl := cl, made := ⟨mk, a1, i1, kc⟩, init := ⟨_, fun_mk l1 c1 k1⟩, eq := ⟨_, fun_mk l2 c2 k2⟩, eqAt := a2, eqFn := i2, places := ⟨b1, e1, t1, _, rc1⟩, gplaces := ⟨_, fun_mk l3 c3 k3⟩, shares := ⟨b2, e2, t2, _, rc2⟩, gshares := ⟨_, fun_mk l4 c4 k4⟩, text := ⟨b3, e3, t3, _, rc3⟩, gtext := ⟨_, fun_mk l5 c5 k5⟩, nP := nP, nS := nS, nT := nT, isC := ⟨cl, ha, hn, ht, hm, kit_self C⟩ }⟩
end
end K68
/-! values.py, scores.py: the walks -/
namespace K68
open PySem PySem.Spec PyProof.Rows L2
theorem tyx_tup {K : PySem.W.Frag} {H : Hp} {a : Addr} {xs : List V} (h : SqT K H a xs) : TyX K H (.ref a) (.type "tuple") := by
  rcases h with (h | ⟨o, h⟩) | ⟨o, its, n, hk, hc, _⟩
  · exact .base (.tup h)
  · exact .fTuple h
  · exact .kTuple hk hc
theorem same_upd {H : Hp} {p : Addr} {o : HO} (h : H p = none) : Same H (upd H p o) := fun b x e => by
  rw [upd_ne (ne_of_none e h)]
  exact e
theorem same_tup {K : PySem.W.Frag} {H H' : Hp} {a : Addr} {xs : List V} (s : Same H H') (h : SqT K H a xs) : SqT K H' a xs := by
  rcases h with (h | ⟨o, h⟩) | h
  · exact .inl (.inl (s _ _ h))
  · exact .inl (.inr ⟨o, s _ _ h⟩)
  · exact .inr h
theorem yes {σ : L2.St} {H : Hp} {F : Bool → Hp → Prop} (h : F true H) : tYes σ H F := h
theorem dT {p : Prop} [Decidable p] (h : p) : V.bl (decide p) = V.bl true := by rw [decide_eq_true h]
theorem dF {p : Prop} [Decidable p] (h : ¬ p) : V.bl (decide p) = V.bl false := by rw [decide_eq_false h]
theorem qT {Q : VK} {H : Hp} {p : Prop} [Decidable p] (h : p) (q : Q (.bl true) H) : Q (.bl (decide p)) H := by rw [dT h]; exact q
theorem qF {Q : VK} {H : Hp} {p : Prop} [Decidable p] (h : ¬ p) (q : Q (.bl false) H) : Q (.bl (decide p)) H := by rw [dF h]; exact q
section
variable {P : Program} {w : World} {K : PySem.W.Frag} {mg : Str → Option Value} {base : Heap} {C fi fe pp ps pt gp gs gt : Addr}

def spInt : Sp := fun vs H Q _ => ∃ i : Int, vs = [.int i] ∧ Q (.bl true) H
theorem c_is_integer (T : Tx K mg C fi fe pp ps pt gp gs gt) : Cl P w K mg base 1 "is_integer" ["value"] spInt := by
  refine cl_of T.d_is_integer sc_is_integer bi_is_integer (fun vs H Q E h => ?_) (fun f cdv A outer s H vs Q E hr h => ?_)
  · obtain ⟨i, rfl, _⟩ := h
    rfl
  · obtain ⟨i, rfl, q⟩ := h
    refine ⟨_, pss_one (ps_ret (pe_and (pe_callB call_isi (by rfl) T.b_isinstance (by decide +kernel) (pa_cons (pv 0) (pa_cons (pe_bltn (v := .ty "int") (by rfl) T.b_int (by decide +kernel) rfl) pa_nil)))
      (pe_one (pe_not (pe_callB call_isi (by rfl) T.b_isinstance (by decide +kernel) (pa_cons (pv 0) (pa_cons (pe_bltn (v := .ty "bool") (by rfl) T.b_bool (by decide +kernel) rfl) pa_nil))))))), ?_⟩
    refine ⟨_, rfl, _, _, _, _, true, rfl, .ty "int", .base (.int i), kit_ty (by decide +kernel), true, rfl, iteT ?_⟩
    exact ⟨_, rfl, _, _, _, _, false, rfl, .ty "bool", .base (.int i), kit_ty (by decide +kernel), false, rfl, q⟩
def spWithin : Sp := fun vs H Q _ => ∃ v l g : Int, vs = [.int v, .int l, .int g] ∧ l ≤ v ∧ v ≤ g ∧ Q (.bl true) H
theorem c_is_within (T : Tx K mg C fi fe pp ps pt gp gs gt) : Cl P w K mg base 2 "is_within" ["value", "least", "greatest"] spWithin := by
  refine cl_of T.d_is_within sc_is_within bi_is_within (fun vs H Q E h => ?_) (fun f cdv A outer s H vs Q E hr h => ?_)
  · obtain ⟨v, l, g, rfl, _⟩ := h
    rfl
  · obtain ⟨v, l, g, rfl, h1, h2, q⟩ := h
    refine ⟨_, pss_one (ps_ret (pe_and (pc (c_is_integer T) hr (by decide) (by rfl) (pa_cons (pv 0) pa_nil)) (pe_one (pe_chain op_le op_le (pv 1) (pv 0) (pv 2))))), ?_⟩
    refine ⟨_, rfl, v, rfl, true, rfl, iteT ?_⟩
    refine ⟨_, rfl, _, rfl, l, v, rfl, rfl, true, (dT h1 :), iteT ?_⟩
    exact ⟨_, rfl, v, g, rfl, rfl, (qT h2 q :)⟩
def spNat : Sp := fun vs H Q _ => ∃ i : Int, vs = [.int i] ∧ 0 ≤ i ∧ Q (.bl true) H
theorem c_is_natural (T : Tx K mg C fi fe pp ps pt gp gs gt) : Cl P w K mg base 2 "is_natural" ["value"] spNat := by
  refine cl_of T.d_is_natural sc_is_natural bi_is_natural (fun vs H Q E h => ?_) (fun f cdv A outer s H vs Q E hr h => ?_)
  · obtain ⟨i, rfl, _⟩ := h
    rfl
  · obtain ⟨i, rfl, h0, q⟩ := h
    refine ⟨_, pss_one (ps_ret (pe_and (pc (c_is_integer T) hr (by decide) (by rfl) (pa_cons (pv 0) pa_nil)) (pe_one (pe_cmpR op_ge (pv 0) pe_int (nomark _))))), ?_⟩
    refine ⟨_, rfl, i, rfl, true, rfl, iteT ?_⟩
    exact ⟨_, rfl, i, 0, rfl, rfl, (qT h0 q :)⟩
def spTupOf (K : PySem.W.Frag) : Sp := fun vs H Q _ => ∃ (t : Addr) (xs : List V), vs = [.ref t, .int (xs.length : Int)] ∧ SqT K H t xs ∧ Q (.bl true) H
theorem c_is_tuple_of (T : Tx K mg C fi fe pp ps pt gp gs gt) : Cl P w K mg base 1 "is_tuple_of" ["value", "many"] (spTupOf K) := by
  refine cl_of T.d_is_tuple_of sc_is_tuple_of bi_is_tuple_of (fun vs H Q E h => ?_) (fun f cdv A outer s H vs Q E hr h => ?_)
  · obtain ⟨t, xs, rfl, _⟩ := h
    rfl
  · obtain ⟨t, xs, rfl, hT, q⟩ := h
    refine ⟨_, pss_one (ps_ret (pe_and (pe_callB call_isi (by rfl) T.b_isinstance (by decide +kernel) (pa_cons (pv 0) (pa_cons (pe_bltn (v := .ty "tuple") (by rfl) T.b_tuple (by decide +kernel) rfl) pa_nil)))
      (pe_one (pe_cmpR op_eq (pe_callB call_len_seq (by rfl) T.b_len PySem.boot_len (pa_cons (pv 0) pa_nil)) (pv 1) (nomark _))))), ?_⟩
    refine ⟨_, rfl, _, _, _, _, true, rfl, .ty "tuple", tyx_tup hT, kit_ty (by decide +kernel), true, rfl, iteT ?_⟩
    exact ⟨_, rfl, t, xs, rfl, .inr hT, _, rfl, rfl, (qT (p := V.int (xs.length : Int) = V.int (xs.length : Int)) rfl q :)⟩
/-- an item of a list of ints -/
theorem int_at {ns : List Int} {i : Nat} {x : V} (h : (ns.map V.int)[i]? = some x) : ∃ n, ns[i]? = some n ∧ x = .int n ∧ n ∈ ns := by
  rw [List.getElem?_map] at h
  cases e : ns[i]? with
  | none =>
    rw [e] at h
    cases h
  | some n =>
    rw [e] at h
    exact ⟨n, rfl, (Option.some.inj h).symm, List.mem_of_getElem? e⟩
theorem all_true : ∀ n : Nat, (List.replicate n true).all id = true
  | 0 => rfl
  | n + 1 => by
    rw [List.replicate_succ, List.all_cons, all_true n]
    rfl
theorem lt_line {n m : Nat} (h : n ≤ m) (hm : m ≤ 16000000) : n < sizeLine := by
  rw [sizeLine_eq]
  omega
def spNats (K : PySem.W.Frag) : Sp := fun vs H Q _ => ∃ (t : Addr) (ns : List Int), vs = [.ref t, .int (ns.length : Int)] ∧ SqT K H t (ns.map V.int) ∧ ns.length ≤ 1000 ∧ (∀ x ∈ ns, 0 ≤ x) ∧ ∀ H', Same H H' → Q (.bl true) H'
theorem c_are_naturals (T : Tx K mg C fi fe pp ps pt gp gs gt) : Cl P w K mg base 3 "are_naturals" ["value", "many"] (spNats K) := by
  refine cl_of T.d_are_naturals sc_are_naturals bi_are_naturals (fun vs H Q E h => ?_) (fun f cdv A outer s H vs Q E hr h => ?_)
  · obtain ⟨t, ns, rfl, _⟩ := h
    rfl
  · obtain ⟨t, ns, rfl, hT, hl, h0, q⟩ := h
    refine ⟨_, pss_one (ps_ret (pe_and (pc (c_is_tuple_of T) hr (by decide) (by rfl) (pa_cons (pv 0) (pa_cons (pv 1) pa_nil)))
      (pe_one (pe_callB (cr_all rfl) (by rfl) T.b_all (by decide +kernel) (pa_cons (pe_lc (own := [("own", 2)]) (g := gName 2) (tt := tYes) (by rfl) sc_are_naturals.nd (pi_tup (pv 0)) (blkOk_by (N := n_are_naturals) (sc := defScope s_are_naturals) (by decide +kernel)) (fun _ _ _ _ _ => pg_name (i := 2) sc_are_naturals.nd rfl (Or.inl rfl)) (fun _ _ _ _ _ => pts_nil)
        (fun _ _ _ _ _ => pc (c_is_natural T) hr (by decide) (by rfl) (pa_cons (pv 2) pa_nil))) pa_nil))))), ?_⟩
    refine ⟨_, rfl, _, rfl, t, ns.map V.int, by rw [List.length_map]; rfl, hT, true, rfl, iteT ?_⟩
    refine ⟨_, rfl, t, rfl, ⟨_, hT⟩, fun D nD => ?_⟩
    refine lc_tup (K := K) (a := t) (xs := ns.map V.int) (fun i H' => ∃ bs, Same H H' ∧ H D = none ∧ H' D = some (.lst (bs.map V.bl)) ∧ bs = List.replicate i true) ⟨[], same_upd nD, nD, upd_same, rfl⟩ (fun i H' _ ⟨_, sm, _⟩ => same_tup sm hT) ?_ ?_
    · rintro i x H' hx ⟨bs, sm, nD, eD, hbs⟩
      obtain ⟨n, hn, rfl, hm⟩ := int_at hx
      have hi : i < ns.length := (List.getElem?_eq_some_iff.mp hn).1
      refine ⟨rfl, yes (iteT ?_)⟩
      refine ⟨_, rfl, n, rfl, h0 n hm, _, eD, ?_, bs ++ [true], fun b o e => ?_, nD, ?_, ?_⟩
      · rw [List.length_map, hbs, List.length_replicate]
        exact lt_line (Nat.le_of_lt hi) (by omega)
      · rw [upd_ne (ne_of_none e nD)]
        exact sm b o e
      · rw [upd_same, List.map_append]
        rfl
      · rw [hbs, ← List.replicate_succ']
    · rintro H' ⟨bs, sm, nD, eD, hbs⟩
      refine ⟨D, bs, rfl, .inl (.inl eD), ?_⟩
      rw [hbs, all_true]
      exact q H' sm
end
end K68
/-! numbers_text, next_whole, the checks -/
namespace K68
open PySem PySem.Spec PyProof.Rows L2
theorem join_len (z : Str) : ∀ ys : List Str, (Str.join z ys).length ≤ (ys.map (·.length)).sum + ys.length * z.length
  | [] => Nat.zero_le _
  | [x] => by
    show x.length ≤ (x.length + 0) + 1 * z.length
    omega
  | x :: y :: r => by
    have ih := join_len z (y :: r)
    show (x ++ z ++ Str.join z (y :: r)).length ≤ _
    rw [strLen_append, strLen_append, List.map_cons, List.sum_cons, List.length_cons, Nat.add_mul, Nat.one_mul]
    omega
def numT (i : Int) : Str := toString i
theorem numT_len {i : Int} (h0 : 0 ≤ i) (h : i ≤ 1000000) : (numT i).length ≤ 13 :=
  PyData.shown_int_le (by
    have : (10 : Nat) ^ 12 = 1000000000000 := by decide
    omega)
theorem log_small {i : Int} (h0 : 0 ≤ i) (h : i ≤ 1000000) : i.natAbs.log2 < 1920 := by
  have h1 : i.natAbs < 2 ^ 1920 := by
    have : (1000000 : Nat) < 2 ^ 20 := by decide
    have h2 : (2 : Nat) ^ 20 ≤ 2 ^ 1920 := Nat.pow_le_pow_right (by decide) (by decide)
    omega
  exact PySem.Flt.log2_lt_of (by decide) h1
def numsT (ns : List Int) : Str := Txt.join " " (ns.map numT)
theorem nums_sum : ∀ {ns : List Int}, (∀ x ∈ ns, 0 ≤ x ∧ x ≤ 1000000) → ((ns.map numT).map (·.length)).sum ≤ 13 * ns.length
  | [], _ => Nat.zero_le _
  | n :: r, h => by
    have h1 := numT_len (h n List.mem_cons_self).1 (h n List.mem_cons_self).2
    have h2 := nums_sum fun x hx => h x (List.mem_cons_of_mem n hx)
    rw [List.map_cons, List.map_cons, List.sum_cons, List.length_cons]
    omega
theorem sp1 : (" " : Str).length = 1 := rfl
theorem numsT_len {ns : List Int} (h : ∀ x ∈ ns, 0 ≤ x ∧ x ≤ 1000000) (hl : ns.length ≤ 1000) : (numsT ns).length ≤ 14000 := by
  have h1 := nums_sum h
  have h2 : (numsT ns).length ≤ ((ns.map numT).map (·.length)).sum + (ns.map numT).length * (" " : Str).length := by
    show (Builtin.Str.glued " " (ns.map numT)).length ≤ _
    rw [StrLaws.glued_eq_join]
    exact join_len " " (ns.map numT)
  rw [sp1, List.length_map] at h2
  omega
section
variable {P : Program} {w : World} {K : PySem.W.Frag} {mg : Str → Option Value} {base : Heap} {C fi fe pp ps pt gp gs gt : Addr}

def spNumsT (K : PySem.W.Frag) : Sp := fun vs H Q _ => ∃ (t : Addr) (ns : List Int), vs = [.ref t] ∧ SqT K H t (ns.map V.int) ∧ ns.length ≤ 1000 ∧ (∀ x ∈ ns, 0 ≤ x ∧ x ≤ 1000000) ∧ ∀ H', Same H H' → Q (.str (numsT ns)) H'
theorem c_numbers_text (T : Tx K mg C fi fe pp ps pt gp gs gt) : Cl P w K mg base 1 "numbers_text" ["numbers"] (spNumsT K) := by
  refine cl_of T.d_numbers_text sc_numbers_text bi_numbers_text (fun vs H Q E h => ?_) (fun f cdv A outer s H vs Q E hr h => ?_)
  · obtain ⟨t, ns, rfl, _⟩ := h
    rfl
  · obtain ⟨t, ns, rfl, hT, hl, hb, q⟩ := h
    refine ⟨_, pss_one (ps_ret (pe_join pe_str (pe_lc (own := [("number", 1)]) (g := gName 1) (tt := tYes) (by rfl) sc_numbers_text.nd (pi_tup (pv 0)) (blkOk_by (N := n_numbers_text) (sc := defScope s_numbers_text) (by decide +kernel))
      (fun _ _ _ _ _ => pg_name (i := 1) sc_numbers_text.nd rfl (Or.inl rfl)) (fun _ _ _ _ _ => pts_nil) (fun _ _ _ _ _ => pe_callTy call_str_int (by rfl) T.b_str (by decide +kernel) (pa_cons (pv 1) pa_nil))))), ?_⟩
    refine ⟨⟨_, rfl⟩, _, rfl, t, rfl, ⟨_, hT⟩, fun D nD => ?_⟩
    refine lc_tup (K := K) (a := t) (xs := ns.map V.int) (fun i H' => Same H H' ∧ H D = none ∧ H' D = some (.lst (((ns.take i).map numT).map V.str))) ⟨same_upd nD, nD, upd_same⟩ (fun i H' _ ⟨sm, _⟩ => same_tup sm hT) ?_ ?_
    · rintro i x H' hx ⟨sm, nD, eD⟩
      obtain ⟨n, hn, rfl, hm⟩ := int_at hx
      have hi : i < ns.length := (List.getElem?_eq_some_iff.mp hn).1
      refine ⟨rfl, yes (iteT ?_)⟩
      refine ⟨_, rfl, n, rfl, log_small (hb n hm).1 (hb n hm).2, _, eD, ?_, fun b o e => ?_, nD, ?_⟩
      · rw [List.length_map, List.length_map, List.length_take]
        exact lt_line (m := 1000) (by omega) (by omega)
      · rw [upd_ne (ne_of_none e nD)]
        exact sm b o e
      · rw [upd_same, List.take_add_one, hn, List.map_append, List.map_append]
        rfl
    · rintro H' ⟨sm, nD, eD⟩
      rw [List.length_map, List.take_length] at eD
      refine ⟨_, D, ns.map numT, rfl, rfl, .inl (.inl (.inl eD)), ?_, q H' sm⟩
      have := nums_sum hb
      rw [sp1, List.length_map]
      omega
def spNext : Sp := fun vs H Q _ => ∃ t b : Int, vs = [.int t, .int b] ∧ 0 < b ∧ b < 2 ^ 200 ∧ Q (.int ((2 * t + b) / (2 * b))) H
theorem two64 : (-(2 ^ 64) : Int) < 2 ∧ (2 : Int) < 2 ^ 64 := by decide
theorem c_next_whole (T : Tx K mg C fi fe pp ps pt gp gs gt) : Cl P w K mg base 1 "next_whole" ["top", "bottom"] spNext := by
  refine cl_of T.d_next_whole sc_next_whole bi_next_whole (fun vs H Q E h => ?_) (fun f cdv A outer s H vs Q E hr h => ?_)
  · obtain ⟨t, b, rfl, _⟩ := h
    rfl
  · obtain ⟨t, b, rfl, h0, hb, q⟩ := h
    refine ⟨_, pss_one (ps_ret (pe_op op_fdivW (pe_op op_add (pe_op op_mul pe_int (pv 0)) (pv 1)) (pe_op op_mul pe_int (pv 1)))), ?_⟩
    refine ⟨_, rfl, _, _, rfl, rfl, .inl two64, _, rfl, _, _, rfl, rfl, _, rfl, _, _, rfl, rfl, .inl two64, _, _, rfl, rfl, ?_, q⟩
    refine wide_div (b := 201) (by omega) ?_ (by decide) (by decide)
    have : (2 : Nat) ^ 201 = 2 * 2 ^ 200 := by decide
    have h2 : ((2 ^ 200 : Nat) : Int) = 2 ^ 200 := by decide
    omega
def spPeople : Sp := fun vs H Q _ => ∃ p : Int, vs = [.int p] ∧ 0 < p ∧ Q .non H
theorem c_check_people (T : Tx K mg C fi fe pp ps pt gp gs gt) : Cl P w K mg base 3 "check_people" ["value"] spPeople := by
  refine cl_of T.d_check_people sc_check_people bi_check_people (fun vs H Q E h => ?_) (fun f cdv A outer s H vs Q E hr h => ?_)
  · obtain ⟨p, rfl, _⟩ := h
    rfl
  · obtain ⟨p, rfl, h0, q⟩ := h
    refine ⟨_, pss_one (ps_if (PW.pt (pw_or (pt_not (pt_val (pc (c_is_natural T) hr (by decide) (by rfl) (pa_cons (pv 0) pa_nil)))) (pw_or1 (pt_cmpR op_eq (pv 0) pe_int (nomark _))))) pss_never pss_nil), ?_⟩
    refine ⟨_, rfl, p, rfl, by omega, true, rfl, iteF ?_⟩
    refine ⟨_, rfl, rfl, _, (dF (p := V.int p = V.int 0) (fun e => by cases e; omega) :), iteF q⟩
def spPlaces : Sp := fun vs H Q _ => ∃ p : Int, vs = [.int p] ∧ 0 ≤ p ∧ p ≤ 1 ∧ Q .non H
theorem c_check_poll_places (T : Tx K mg C fi fe pp ps pt gp gs gt) : Cl P w K mg base 3 "check_poll_places" ["value"] spPlaces := by
  refine cl_of T.d_check_poll_places sc_check_poll_places bi_check_poll_places (fun vs H Q E h => ?_) (fun f cdv A outer s H vs Q E hr h => ?_)
  · obtain ⟨p, rfl, _⟩ := h
    rfl
  · obtain ⟨p, rfl, h0, h1, q⟩ := h
    obtain ⟨u, gu, hU⟩ := T.units
    refine ⟨_, pss_one (ps_if (pt_not (pt_val (pc (c_is_within T) hr (by decide) (by rfl) (pa_cons (pv 0) (pa_cons pe_int (pa_cons (pe_op op_sub (pe_callB call_len_seq (by rfl) T.b_len PySem.boot_len (pa_cons (pe_glob (v := .ref u) (by rfl) gu rfl) pa_nil)) pe_int) pa_nil)))))) pss_never pss_nil), ?_⟩
    refine ⟨_, rfl, u, _, rfl, .inr (hU H), _, _, rfl, rfl, p, 0, _, rfl, h0, ?_, true, rfl, iteF q⟩
    show p ≤ ((2 : Nat) : Int) - 1
    omega
end
end K68
/-! check_shares, check_poll, the class Poll -/
namespace K68
open PySem PySem.Spec PyProof.Rows L2
/-- a for over what is walked in n turns -/
theorem for_steps {J : It} {g : TG} {tb : TS} {D : Ends} {σ : L2.St} {H : Hp} (n : Nat) (Pv : Nat → L2.St → Hp → Prop) (h0 : Pv 0 σ H) (stop : ∀ σ H, Pv n σ H → J.stop n H) (go : ∀ i σ H, i < n → Pv i σ H → J.go i H)
    (one : ∀ i σ H x H', i < n → Pv i σ H → J.yld i H x H' → g x σ H' fun σ2 H2 => tb { D with nx := Pv (i + 1), ct := Pv (i + 1), bk := D.nx } σ2 H2) (fin : ∀ σ H, Pv n σ H → D.nx σ H) :
    ∃ W : Nat → Nat → L2.St → Hp → Prop, (∃ m, W 0 m σ H) ∧ ∀ i m σ H, W i m σ H →
      (J.stop i H ∧ D.nx σ H) ∨ (J.go i H ∧ ∃ N : L2.St → Hp → Prop, (∀ σ' H', N σ' H' → ∃ m', m' < m ∧ W (i + 1) m' σ' H') ∧ ∀ x H', J.yld i H x H' → g x σ H' fun σ2 H2 => tb { D with nx := N, ct := N, bk := D.nx } σ2 H2) := by
  refine ⟨fun i m σ H => i + m = n ∧ Pv i σ H, ⟨n, Nat.zero_add n, h0⟩, ?_⟩
  rintro i m σ H ⟨em, p⟩
  by_cases hi : i < n
  · exact .inr ⟨go i σ H hi p, Pv (i + 1), fun σ' H' q => ⟨m - 1, by omega, by omega, q⟩, fun x H' y => one i σ H x H' hi p y⟩
  · have e : i = n := by omega
    subst e
    exact .inl ⟨stop σ H p, fin σ H p⟩
/-- what stands but at one place stands -/
theorem keep_tup {K : PySem.W.Frag} {H H' : Hp} {W t : Addr} {z : HO} {xs : List V} (k : ∀ b o, b ≠ W → H b = some o → H' b = some o) (e : H W = some z) (h1 : ∀ ys, z ≠ .tup ys) (h2 : ∀ o u, z ≠ .frz o u) (h : SqT K H t xs) : SqT K H' t xs := by
  rcases h with (h | ⟨o, h⟩) | h
  · refine .inl (.inl (k _ _ ?_ h))
    rintro rfl
    rw [e] at h
    exact h1 _ (Option.some.inj h)
  · refine .inl (.inr ⟨o, k _ _ ?_ h⟩)
    rintro rfl
    rw [e] at h
    exact h2 _ _ (Option.some.inj h)
  · exact .inr h
/-! the fields of a poll -/
theorem kTS : ¬ (("own_text" : Str) = "own_shares") := by decide +kernel
theorem kTP : ¬ (("own_text" : Str) = "own_places") := by decide +kernel
theorem kSP : ¬ (("own_shares" : Str) = "own_places") := by decide +kernel
def pfl (pl : Int) (t : Addr) (x : Str) : List (Str × V) := putF "own_text" (.str x) (putF "own_shares" (.ref t) (putF "own_places" (.int pl) []))
theorem pfl_text (pl : Int) (t : Addr) (x : Str) : (pfl pl t x).lookup ("own_text" : Str) = some (.str x) := by
  unfold pfl
  rw [lookup_putF, if_pos rfl]
theorem pfl_shares (pl : Int) (t : Addr) (x : Str) : (pfl pl t x).lookup ("own_shares" : Str) = some (.ref t) := by
  unfold pfl
  rw [lookup_putF, if_neg (Ne.symm kTS), lookup_putF, if_pos rfl]
theorem pfl_places (pl : Int) (t : Addr) (x : Str) : (pfl pl t x).lookup ("own_places" : Str) = some (.int pl) := by
  unfold pfl
  rw [lookup_putF, if_neg (Ne.symm kTP), lookup_putF, if_neg (Ne.symm kSP), lookup_putF, if_pos rfl]
def pollT (pl : Int) (ns : List Int) : Str := Str.empty ++ "poll " ++ numT pl ++ " " ++ numsT ns
/-- a poll stands at p -/
structure PollAt (K : PySem.W.Frag) (C : Addr) (H : Hp) (p : Addr) (pl : Int) (ns : List Int) : Prop where
  ex : ∃ dx t, H p = some (.ins C dx (pfl pl t (pollT pl ns))) ∧ SqT K H t (ns.map V.int)
theorem PollAt.same {K : PySem.W.Frag} {C : Addr} {H H' : Hp} {p : Addr} {pl : Int} {ns : List Int} (h : PollAt K C H p pl ns) (s : Same H H') : PollAt K C H' p pl ns := by
  obtain ⟨dx, t, e, hT⟩ := h.ex
  exact ⟨dx, t, s _ _ e, same_tup s hT⟩
def unitOf (pl : Int) : Int := if pl = 1 then 1000 else 100
theorem unit_at {pl : Int} (h0 : 0 ≤ pl) (h1 : pl ≤ 1) : atI [V.int 100, V.int 1000] pl = some (.int (unitOf pl)) := by
  rcases (by omega : pl = 0 ∨ pl = 1) with rfl | rfl <;> rfl
theorem unit_pos (pl : Int) : 0 < unitOf pl ∧ unitOf pl ≤ 1000 := by
  unfold unitOf
  split <;> omega
section
variable {P : Program} {w : World} {K : PySem.W.Frag} {mg : Str → Option Value} {base : Heap} {C fi fe pp ps pt gp gs gt : Addr}

def spShares (K : PySem.W.Frag) : Sp := fun vs H Q _ => ∃ (t : Addr) (ns : List Int) (u : Int), vs = [.ref t, .int u] ∧ SqT K H t (ns.map V.int) ∧ 2 ≤ ns.length ∧ ns.length ≤ 6 ∧ (∀ x ∈ ns, 0 ≤ x ∧ x ≤ u) ∧ ∀ H', Same H H' → Q .non H'
theorem c_check_shares (T : Tx K mg C fi fe pp ps pt gp gs gt) : Cl P w K mg base 3 "check_shares" ["value", "unit"] (spShares K) := by
  refine cl_of T.d_check_shares sc_check_shares bi_check_shares (fun vs H Q E h => ?_) (fun f cdv A outer s H vs Q E hr h => ?_)
  · obtain ⟨t, ns, u, rfl, _⟩ := h
    rfl
  · obtain ⟨t, ns, u, rfl, hT, h2, h6, hb, q⟩ := h
    obtain ⟨k6, gm⟩ := T.most
    refine ⟨_, pss_cons (ps_if (pt_not (pt_val (pe_callB call_isi (by rfl) T.b_isinstance (by decide +kernel) (pa_cons (pv 0) (pa_cons (pe_bltn (v := .ty "tuple") (by rfl) T.b_tuple (by decide +kernel) rfl) pa_nil))))) pss_never pss_nil)
      (pss_cons (ps_for PassesOwn.never rfl (pi_enumT (by rfl) T.b_enumerate (pa_cons (pv 0) pa_nil)) (pg_tup rfl (pgs_cons (pg_name (i := 2) sc_check_shares.nd rfl (.inl rfl)) (pgs_cons (pg_name (i := 3) sc_check_shares.nd rfl (.inl rfl)) pgs_nil)))
        (pss_one (ps_if (PW.pt (pw_or (pt_cmpR op_eq (pv 2) (pe_glob (v := .int 6) (by rfl) gm ⟨k6, rfl⟩) (nomark _)) (pw_or1 (pt_not (pt_val (pc (c_is_within T) hr (by decide) (by rfl) (pa_cons (pv 3) (pa_cons pe_int (pa_cons (pv 1) pa_nil))))))))) pss_never pss_nil)))
      (pss_one (ps_if (pt_cmpR op_lt (pe_callB call_len_seq (by rfl) T.b_len PySem.boot_len (pa_cons (pv 0) pa_nil)) pe_int (nomark _)) pss_never pss_nil))), ?_⟩
    refine ⟨_, rfl, _, _, _, _, true, rfl, .ty "tuple", tyx_tup hT, kit_ty (by decide +kernel), true, rfl, iteF ?_⟩
    refine ⟨_, rfl, t, _, rfl, hT, ?_⟩
    refine for_steps (J := ItT K t) ns.length (fun i σ H' => ∃ y2 y3, σ = [some (.ref t), some (.int u), y2, y3] ∧ Same H H') ⟨none, none, rfl, Same.refl H⟩ (fun σ H' ⟨_, _, _, sm⟩ => ⟨_, same_tup sm hT, List.length_map _⟩)
      (fun i σ H' hi ⟨_, _, _, sm⟩ => ⟨_, .int ns[i], same_tup sm hT, by rw [List.getElem?_map, List.getElem?_eq_getElem hi]; rfl⟩) ?_ ?_
    · rintro i σ H' x H2 hi ⟨y2, y3, rfl, sm⟩ ⟨D, y, rfl, nD, rfl, hy⟩
      have ey := hy _ (same_tup sm hT)
      obtain ⟨n, hn, rfl, hm⟩ := int_at ey
      refine ⟨D, [.int (i : Nat), .int n], rfl, .inl (.inl upd_same), rfl, _, _, rfl, _, _, rfl, rfl, ?_⟩
      refine ⟨_, rfl, rfl, _, (dF (p := V.int (i : Nat) = V.int 6) (fun e => by injection e with e; omega) :), iteF ?_⟩
      refine ⟨_, rfl, _, rfl, n, 0, u, rfl, (hb n hm).1, (hb n hm).2, true, rfl, iteF ?_⟩
      exact ⟨_, _, rfl, sm.trans (same_upd nD)⟩
    · rintro σ H' ⟨y2, y3, rfl, sm⟩
      refine ⟨_, rfl, t, _, rfl, .inr (same_tup sm hT), _, _, rfl, rfl, _, (dF (p := ((ns.map V.int).length : Int) < 2) (by rw [List.length_map]; omega) :), iteF (q H' sm)⟩
def spPoll (K : PySem.W.Frag) (C : Addr) : Sp := fun vs H Q _ => ∃ (p : Addr) (pl : Int) (ns : List Int), vs = [.ref p] ∧ PollAt K C H p pl ns ∧ Q .non H
theorem c_check_poll (T : Tx K mg C fi fe pp ps pt gp gs gt) : Cl P w K mg base 1 "check_poll" ["value"] (spPoll K C) := by
  refine cl_of T.d_check_poll sc_check_poll bi_check_poll (fun vs H Q E h => ?_) (fun f cdv A outer s H vs Q E hr h => ?_)
  · obtain ⟨p, pl, ns, rfl, _⟩ := h
    rfl
  · obtain ⟨p, pl, ns, rfl, hP, q⟩ := h
    obtain ⟨dx, t, e, _⟩ := hP.ex
    refine ⟨_, pss_one (ps_if (pt_not (pt_val (pe_callB (C8.call_isC T.isC) (by rfl) T.b_isinstance (by decide +kernel) (pa_cons (pv 0) (pa_cons (pe_glob (v := .ref C) (by rfl) T.poll rfl) pa_nil))))) pss_never pss_nil), ?_⟩
    exact ⟨_, rfl, p, dx, _, rfl, e, true, rfl, iteF q⟩
/-- Poll(places, shares): __init__ -/
def spInit (K : PySem.W.Frag) (C : Addr) : Sp := fun vs H Q _ => ∃ (p dx : Addr) (pl : Int) (t : Addr) (ns : List Int), vs = [.ref p, .int pl, .ref t] ∧ H p = some (.ins C dx []) ∧ SqT K H t (ns.map V.int) ∧ 0 ≤ pl ∧ pl ≤ 1 ∧ 2 ≤ ns.length ∧ ns.length ≤ 6 ∧ (∀ x ∈ ns, 0 ≤ x ∧ x ≤ unitOf pl) ∧
  ∀ H', (∀ b o, b ≠ p → H b = some o → H' b = some o) → H' p = some (.ins C dx (pfl pl t (pollT pl ns))) → Q .non H'
theorem e5 : ("poll " : Str).length = 5 := rfl
theorem em : (Str.empty : Str).length = 0 := rfl
theorem fn_init (T : Tx K mg C fi fe pp ps pt gp gs gt) : ∃ fd, FnOk P w K mg base CX0 4 fi fd ["self", "places", "shares"] (spInit K C) ∧ Binds K fd ["self", "places", "shares"] [] := by
  obtain ⟨fd, F⟩ := T.init
  refine ⟨fd, F.ok sc_pinit (fun vs H Q E h => ?_) (fun cdv A outer s H vs Q E hr h => ?_), F.binds bi_pinit⟩
  · obtain ⟨p, dx, pl, t, ns, rfl, _⟩ := h
    rfl
  · obtain ⟨p, dx, pl, t, ns, rfl, hp, hT, h0, h1, h2, h6, hb, q⟩ := h
    obtain ⟨u, gu, hU⟩ := T.units
    refine ⟨_, pss_cons (ps_expr (pc (c_check_poll_places T) hr (by decide) (by rfl) (pa_cons (pv 1) pa_nil)))
      (pss_cons (ps_expr (pc (c_check_shares T) hr (by decide) (by rfl) (pa_cons (pv 2) (pa_cons (pe_ix ix_tup (pe_glob (v := .ref u) (by rfl) gu rfl) (pv 1) (fun _ _ => rfl)) pa_nil))))
      (pss_cons (ps_fld (pv 0) (pv 1) rfl) (pss_cons (ps_fld (pv 0) (pv 2) rfl)
      (pss_one (ps_fld (pv 0) (pe_joined (.cons pe_str (.cons (pe_fmt (pv 1)) (.cons pe_str (.cons (pe_fmt (pc (c_numbers_text T) hr (by decide) (by rfl) (pa_cons (pv 2) pa_nil))) .nil))))) rfl))))), ?_⟩
    refine ⟨_, rfl, pl, rfl, h0, h1, ?_⟩
    refine ⟨_, rfl, _, rfl, u, _, pl, _, rfl, rfl, hU H, unit_at h0 h1, t, ns, _, rfl, hT, h2, h6, hb, fun H1 s1 => ?_⟩
    have hp1 := s1 _ _ hp
    refine ⟨_, rfl, _, rfl, p, C, dx, [], rfl, hp1, T.cl, T.nP, (by show 0 < 1000; decide), ?_⟩
    refine ⟨_, rfl, _, rfl, p, C, dx, _, rfl, upd_same, T.cl, T.nS, (by show 1 < 1000; decide), ?_⟩
    generalize hH2 : upd (upd H1 p (.ins C dx (putF "own_places" (V.int pl) []))) p (.ins C dx (putF "own_shares" (V.ref t) (putF "own_places" (V.int pl) []))) = H2
    have k2 : ∀ b o, b ≠ p → H1 b = some o → H2 b = some o := fun b o nb e => by
      rw [← hH2, upd_ne nb, upd_ne nb]
      exact e
    have hT2 : SqT K H2 t (ns.map V.int) := keep_tup k2 hp1 (fun _ z => nomatch z) (fun _ _ z => nomatch z) (same_tup s1 hT)
    have hpl : numT pl = numT pl := rfl
    have l1 := numT_len h0 (by omega)
    have hb2 : ∀ x ∈ ns, 0 ≤ x ∧ x ≤ 1000000 := fun x hx => ⟨(hb x hx).1, by
      have := (hb x hx).2
      have := (unit_pos pl).2
      omega⟩
    have l2 := numsT_len hb2 (by omega)
    have z0 : ∀ {n : Nat}, n ≤ 16000 → n ≤ sizeLine := fun {n} hn => by
      rw [sizeLine_eq]
      omega
    refine ⟨"poll ", rfl, z0 (by rw [strLen_append, e5, em]; omega), _, rfl, .inr ⟨pl, rfl, log_small h0 (by omega), numT pl, rfl, z0 (by rw [strLen_append, strLen_append, e5, em]; omega), " ", rfl, z0 (by rw [strLen_append, strLen_append, strLen_append, e5, em, sp1]; omega), ?_⟩⟩
    refine ⟨_, rfl, t, ns, rfl, hT2, by omega, hb2, fun H3 s3 => .inl ⟨_, rfl, z0 (by omega), _, rfl, z0 (by rw [strLen_append, strLen_append, strLen_append, strLen_append, e5, em, sp1]; omega), ?_⟩⟩
    have hp3 : H3 p = some (.ins C dx (putF "own_shares" (V.ref t) (putF "own_places" (V.int pl) []))) := s3 _ _ (by rw [← hH2, upd_same])
    refine ⟨_, rfl, p, C, dx, _, rfl, hp3, T.cl, T.nT, (by show 2 < 1000; decide), ?_⟩
    refine q _ (fun b o nb e => ?_) upd_same
    rw [upd_ne nb]
    exact s3 b o (k2 b o nb (s1 b o e))
end
end K68
/-! a poll's properties, ==, the poll of counts, the ends of a share -/
namespace K68
open PySem PySem.Spec PyProof.Rows L2
theorem unit_64 (pl : Int) : -(2 ^ 64) < unitOf pl ∧ unitOf pl < 2 ^ 64 := by
  unfold unitOf
  split <;> decide
section
variable {P : Program} {w : World} {K : PySem.W.Frag} {mg : Str → Option Value} {base : Heap} {C fi fe pp ps pt gp gs gt : Addr}
theorem fn_places (T : Tx K mg C fi fe pp ps pt gp gs gt) : ∃ fd, FnOk P w K mg base CX0 1 gp fd ["self"] (getSp C "own_places") ∧ Binds K fd ["self"] [] := by
  obtain ⟨fd, F⟩ := T.gplaces
  refine ⟨fd, F.ok sc_pplaces (fun vs H Q E h => ?_) (fun cdv A outer s H vs Q E hr h => ?_), F.binds bi_pplaces⟩
  · obtain ⟨a, dx, fs, v, rfl, _⟩ := h
    rfl
  · obtain ⟨a, dx, fs, v, rfl, ea, l, q⟩ := h
    exact ⟨_, pss_one (ps_ret (pe_fld (pv 0) rfl)), _, rfl, a, C, dx, fs, v, rfl, ea, T.cl, T.nP, l, q⟩
theorem fn_shares (T : Tx K mg C fi fe pp ps pt gp gs gt) : ∃ fd, FnOk P w K mg base CX0 1 gs fd ["self"] (getSp C "own_shares") ∧ Binds K fd ["self"] [] := by
  obtain ⟨fd, F⟩ := T.gshares
  refine ⟨fd, F.ok sc_pshares (fun vs H Q E h => ?_) (fun cdv A outer s H vs Q E hr h => ?_), F.binds bi_pshares⟩
  · obtain ⟨a, dx, fs, v, rfl, _⟩ := h
    rfl
  · obtain ⟨a, dx, fs, v, rfl, ea, l, q⟩ := h
    exact ⟨_, pss_one (ps_ret (pe_fld (pv 0) rfl)), _, rfl, a, C, dx, fs, v, rfl, ea, T.cl, T.nS, l, q⟩
theorem fn_text (T : Tx K mg C fi fe pp ps pt gp gs gt) : ∃ fd, FnOk P w K mg base CX0 1 gt fd ["self"] (getSp C "own_text") ∧ Binds K fd ["self"] [] := by
  obtain ⟨fd, F⟩ := T.gtext
  refine ⟨fd, F.ok sc_ptext (fun vs H Q E h => ?_) (fun cdv A outer s H vs Q E hr h => ?_), F.binds bi_ptext⟩
  · obtain ⟨a, dx, fs, v, rfl, _⟩ := h
    rfl
  · obtain ⟨a, dx, fs, v, rfl, ea, l, q⟩ := h
    exact ⟨_, pss_one (ps_ret (pe_fld (pv 0) rfl)), _, rfl, a, C, dx, fs, v, rfl, ea, T.cl, T.nT, l, q⟩
/-- two polls with one text -/
def SameT (C : Addr) (a b : Addr) (H : Hp) : Prop := ∃ dx dy fs gs x, H a = some (.ins C dx fs) ∧ H b = some (.ins C dy gs) ∧ fs.lookup ("own_text" : Str) = some (.str x) ∧ gs.lookup ("own_text" : Str) = some (.str x)
theorem fn_eq (T : Tx K mg C fi fe pp ps pt gp gs gt) : ∃ fd, FnOk P w K mg base CX0 1 fe fd ["self", "other"] (spEq (SameT C)) ∧ Binds K fd ["self", "other"] [] := by
  obtain ⟨fd, F⟩ := T.eq
  refine ⟨fd, F.ok sc_peq (fun vs H Q E h => ?_) (fun cdv A outer s H vs Q E hr h => ?_), F.binds bi_peq⟩
  · obtain ⟨a, b, rfl, _⟩ := h
    rfl
  · obtain ⟨a, b, rfl, ⟨dx, dy, fs, gs, x, ha, hb, la, lb⟩, q⟩ := h
    refine ⟨_, pss_one (ps_ret (pe_and (pe_callB (C8.call_isC T.isC) (by rfl) T.b_isinstance (by decide +kernel) (pa_cons (pv 1) (pa_cons (pe_glob (v := .ref C) (by rfl) T.poll rfl) pa_nil)))
      (pe_one (pe_cmpR op_eq (pe_fld (pv 0) rfl) (pe_fld (pv 1) rfl) (nomark _))))), ?_⟩
    refine ⟨_, rfl, b, dy, gs, rfl, hb, true, rfl, iteT ?_⟩
    refine ⟨_, rfl, a, C, dx, fs, _, rfl, ha, T.cl, T.nT, la, _, rfl, b, C, dy, gs, _, rfl, hb, T.cl, T.nT, lb, rfl, ?_⟩
    exact (qT (p := V.str x = V.str x) rfl (q H Ext.rfl') :)
def spUnit (K : PySem.W.Frag) (C : Addr) : Sp := fun vs H Q _ => ∃ (p : Addr) (pl : Int) (ns : List Int), vs = [.ref p] ∧ PollAt K C H p pl ns ∧ 0 ≤ pl ∧ pl ≤ 1 ∧ Q (.int (unitOf pl)) H
theorem c_unit_of (T : Tx K mg C fi fe pp ps pt gp gs gt) : Cl P w K mg base 3 "unit_of" ["poll"] (spUnit K C) := by
  refine cl_of T.d_unit_of sc_unit_of bi_unit_of (fun vs H Q E h => ?_) (fun f cdv A outer s H vs Q E hr h => ?_)
  · obtain ⟨p, pl, ns, rfl, _⟩ := h
    rfl
  · obtain ⟨p, pl, ns, rfl, hP, h0, h1, q⟩ := h
    obtain ⟨dx, t, e, hT⟩ := hP.ex
    obtain ⟨u, gu, hU⟩ := T.units
    obtain ⟨fd, F, b⟩ := fn_places (P := P) (w := w) (base := base) T
    refine ⟨_, pss_one (ps_ret (pe_ix ix_tup (pe_glob (v := .ref u) (by rfl) gu rfl) (pe_prop (pv 0) T.cl T.places F hr b .nil pass0 (by rfl)) (fun _ _ => rfl))), ?_⟩
    exact ⟨_, rfl, p, dx, _, rfl, e, p, dx, _, _, rfl, e, pfl_places _ _ _, u, _, pl, _, rfl, rfl, hU H, unit_at h0 h1, q⟩
def spPollOf (K : PySem.W.Frag) (C : Addr) : Sp := fun vs H Q _ => ∃ (t : Addr) (pl : Int) (ns : List Int), vs = [.ref t, .int pl] ∧ SqT K H t (ns.map V.int) ∧ 0 ≤ pl ∧ pl ≤ 1 ∧ 2 ≤ ns.length ∧ ns.length ≤ 6 ∧ (∀ x ∈ ns, 0 ≤ x) ∧ 0 < ns.sum ∧ ns.sum < 2 ^ 200 ∧
  ∀ H' p, Same H H' → PollAt K C H' p pl (sharesOf (unitOf pl) ns.sum ns) → Q (.ref p) H'
theorem shares_ok {u p : Int} (hu : 0 < u) (hp : 0 < p) {ns : List Int} (h0 : ∀ x ∈ ns, 0 ≤ x) (hs : ns.sum = p) : ∀ x ∈ sharesOf u p ns, 0 ≤ x ∧ x ≤ u := fun x hx => by
  unfold sharesOf at hx
  rw [List.mem_map] at hx
  obtain ⟨c, hc, rfl⟩ := hx
  exact ⟨near_nn hu hp (h0 c hc), near_le hu hp (by rw [← hs]; exact mem_le_sum h0 hc)⟩
theorem c_poll_of (T : Tx K mg C fi fe pp ps pt gp gs gt) : Cl P w K mg base 6 "poll_of" ["counts", "places"] (spPollOf K C) := by
  refine cl_of T.d_poll_of sc_poll_of bi_poll_of (fun vs H Q E h => ?_) (fun f cdv A outer s H vs Q E hr h => ?_)
  · obtain ⟨t, pl, ns, rfl, _⟩ := h
    rfl
  · obtain ⟨t, pl, ns, rfl, hT, h0, h1, h2, h6, hn, hs0, hs2, q⟩ := h
    obtain ⟨u, gu, hU⟩ := T.units
    obtain ⟨k6, gm⟩ := T.most
    obtain ⟨fd, FI, bI⟩ := fn_init (P := P) (w := w) (base := base) T
    refine ⟨_, pss_cons (ps_if (PW.pt (pw_or (pt_not (pt_val (pe_callB call_isi (by rfl) T.b_isinstance (by decide +kernel) (pa_cons (pv 0) (pa_cons (pe_bltn (v := .ty "tuple") (by rfl) T.b_tuple (by decide +kernel) rfl) pa_nil)))))
        (pw_or1 (pt_not (pt_chain op_le op_le pe_int (pe_callB call_len_seq (by rfl) T.b_len PySem.boot_len (pa_cons (pv 0) pa_nil)) (pe_glob (v := .int 6) (by rfl) gm ⟨k6, rfl⟩)))))) pss_never pss_nil)
      (pss_cons (ps_if (PW.pt (pw_or (pt_not (pt_val (pc (c_are_naturals T) hr (by decide) (by rfl) (pa_cons (pv 0) (pa_cons (pe_callB call_len_seq (by rfl) T.b_len PySem.boot_len (pa_cons (pv 0) pa_nil)) pa_nil)))))
        (pw_or1 (pt_cmpR op_eq (pe_callB (call_sumT rfl) (by rfl) T.b_sum (by decide +kernel) (pa_cons (pv 0) pa_nil)) pe_int (nomark _))))) pss_never pss_nil)
      (pss_cons (ps_expr (pc (c_check_poll_places T) hr (by decide) (by rfl) (pa_cons (pv 1) pa_nil)))
      (pss_cons (ps_set (i := 2) sc_poll_of.nd rfl (.inr rfl) (pe_callB (call_sumT rfl) (by rfl) T.b_sum (by decide +kernel) (pa_cons (pv 0) pa_nil)))
      (pss_one (ps_ret (pe_make T.made FI hr (by rfl) T.poll bI .nil pass0 (pa_cons (pv 1) (pa_cons (pe_callTy call_tuple_of (by rfl) T.b_tuple (by decide +kernel) (pa_cons (pe_lc (own := [("count", 3)]) (g := gName 3) (tt := tYes) (by rfl) sc_poll_of.nd (pi_tup (pv 0)) (blkOk_by (N := n_poll_of) (sc := defScope s_poll_of) (by decide +kernel))
          (fun _ _ _ _ _ => pg_name (i := 3) sc_poll_of.nd rfl (Or.inl rfl)) (fun _ _ _ _ _ => pts_nil) (fun _ _ _ _ _ => pc (c_next_whole T) hr (by decide) (by rfl) (pa_cons (pe_op op_mul (pe_ix (r := rIxT K) ix_tup (pe_glob (v := .ref u) (by rfl) gu rfl) (pv 1) (fun _ _ => rfl)) (pv 3)) (pa_cons (pv 2) pa_nil)))) pa_nil)) pa_nil)))))))), ?_⟩
    refine ⟨_, rfl, _, _, _, _, true, rfl, .ty "tuple", tyx_tup hT, kit_ty (by decide +kernel), true, rfl, iteF ?_⟩
    have l6 : (ns.map V.int).length = ns.length := List.length_map _
    refine ⟨_, rfl, t, _, rfl, .inr hT, 2, _, rfl, rfl, true, (dT (p := (2 : Int) ≤ ((ns.map V.int).length : Int)) (by omega) :), iteT ?_⟩
    refine ⟨_, _, rfl, rfl, true, (dT (p := ((ns.map V.int).length : Int) ≤ 6) (by omega) :), iteF ?_⟩
    refine ⟨_, rfl, _, rfl, t, _, rfl, .inr hT, t, ns, by rw [l6]; rfl, hT, by omega, hn, fun H1 s1 => ⟨true, rfl, iteF ?_⟩⟩
    have hT1 := same_tup s1 hT
    refine ⟨_, rfl, t, ns, rfl, hT1, rfl, _, (dF (p := V.int ns.sum = V.int 0) (fun e => by injection e with e; omega) :), iteF ?_⟩
    refine ⟨_, rfl, pl, rfl, h0, h1, ?_⟩
    refine ⟨_, rfl, t, ns, rfl, hT1, ?_⟩
    refine ⟨_, rfl, _, rfl, t, rfl, ⟨_, hT1⟩, fun D nD => ?_⟩
    refine lc_tup (K := K) (a := t) (xs := ns.map V.int) (fun i H' => Same H1 H' ∧ H1 D = none ∧ H' D = some (.lst ((sharesOf (unitOf pl) ns.sum (ns.take i)).map V.int))) ⟨same_upd nD, nD, upd_same⟩ (fun i H' _ ⟨sm, _⟩ => same_tup sm hT1) ?_ ?_
    · rintro i x H' hx ⟨sm, nD, eD⟩
      obtain ⟨n, hn2, rfl, hm⟩ := int_at hx
      have hi : i < ns.length := (List.getElem?_eq_some_iff.mp hn2).1
      have hu := unit_pos pl
      refine ⟨rfl, yes (iteT ?_)⟩
      refine ⟨_, rfl, u, _, pl, _, rfl, rfl, hU H', unit_at h0 h1, _, rfl, _, _, rfl, rfl, .inl (unit_64 pl), _, rfl, unitOf pl * n, ns.sum, rfl, hs0, hs2, _, eD, ?_, fun b o e => ?_, nD, ?_⟩
      · rw [List.length_map]
        unfold sharesOf
        rw [List.length_map, List.length_take]
        exact lt_line (m := 6) (by omega) (by omega)
      · rw [upd_ne (ne_of_none e nD)]
        exact sm b o e
      · have e : (2 * (unitOf pl * n) + ns.sum) / (2 * ns.sum) = near (unitOf pl) n ns.sum := by
          unfold near
          rw [Int.mul_assoc]
        unfold sharesOf
        rw [upd_same, List.take_add_one, hn2, List.map_append, List.map_append, e]
        rfl
    · rintro H' ⟨sm, nD, eD⟩
      rw [l6, List.take_length] at eD
      refine ⟨D, _, rfl, .inl ⟨.inl (.inl eD), fun q2 hq2 => ?_⟩⟩
      intro x dx nx ndx nex
      generalize hS : sharesOf (unitOf pl) ns.sum ns = S at *
      have hSl : S.length = ns.length := by
        rw [← hS]
        unfold sharesOf
        rw [List.length_map]
      have eq2 : (upd (upd (upd H' q2 (.tup (S.map V.int))) dx (.own x)) x (.ins C dx [])) q2 = some (.tup (S.map V.int)) := by
        have a1 : q2 ≠ x := by
          rintro rfl
          rw [upd_same] at nx
          cases nx
        have a2 : q2 ≠ dx := by
          rintro rfl
          rw [upd_same] at ndx
          cases ndx
        rw [upd_ne a1, upd_ne a2, upd_same]
      refine ⟨x, dx, pl, q2, S, rfl, upd_same, .inl (.inl eq2), h0, h1, by omega, by omega, fun y hy => ?_, fun H3 k3 e3 => ⟨rfl, ?_⟩⟩
      · rw [← hS] at hy
        exact shares_ok (unit_pos pl).1 hs0 hn rfl y hy
      · have nqx : q2 ≠ x := by
          rintro rfl
          rw [upd_same] at nx
          cases nx
        refine q H3 x (fun b o e => ?_) ⟨dx, q2, e3, .inl (.inl (k3 _ _ nqx eq2))⟩
        have e1 := sm b o (s1 b o e)
        have e2 : upd H' q2 (.tup (S.map V.int)) b = some o := by
          rw [upd_ne (ne_of_none e1 hq2)]
          exact e1
        have nb : b ≠ x := ne_of_none e2 nx
        refine k3 b o nb ?_
        rw [upd_ne nb, upd_ne (ne_of_none e2 ndx)]
        exact e2
end
end K68
/-! the ends of a share, a poll's ends, whether it fits, the first counts -/
namespace K68
open PySem PySem.Spec PyProof.Rows L2
theorem cut_from (xs : List V) (k : Nat) : cutV xs (some (k : Int)) none = xs.drop k := by
  unfold cutV
  rw [HT.sIx_nat, HT.sIx_none]
  by_cases h : k ≤ xs.length
  · rw [Nat.min_eq_left h]
    exact List.take_of_length_le (by rw [List.length_drop]; exact Nat.le_refl _)
  · rw [Nat.min_eq_right (by omega), List.drop_length, List.drop_of_length_le (by omega), List.take_nil]
/-- the ends that stand as pairs in a list at l -/
structure EndsAt (H : Hp) (l : Addr) (e : EndL) : Prop where
  ex : ∃ as : List Addr, H l = some (.lst (as.map V.ref)) ∧ as.length = e.length ∧ ∀ (i : Nat) (a : Addr) (x : Int × Int), as[i]? = some a → e[i]? = some x → H a = some (.tup [.int x.1, .int x.2])
/-- a value that is None, or a tuple of ints -/
def OptAt (H : Hp) (v : V) (o : Option (List Int)) : Prop := (o = none ∧ v = .non) ∨ ∃ (a : Addr) (ns : List Int), o = some ns ∧ v = .ref a ∧ H a = some (.tup (ns.map V.int))
theorem ref_at {as : List Addr} {i : Nat} {x : V} (h : (as.map V.ref)[i]? = some x) : ∃ a, as[i]? = some a ∧ x = .ref a := by
  rw [List.getElem?_map] at h
  cases e : as[i]? with
  | none =>
    rw [e] at h
    cases h
  | some n =>
    rw [e] at h
    exact ⟨n, rfl, (Option.some.inj h).symm⟩
theorem take_succ_map {α β : Type} (f : α → β) {xs : List α} {i : Nat} {x : α} (h : xs[i]? = some x) : (xs.take (i + 1)).map f = (xs.take i).map f ++ [f x] := by
  rw [List.take_add_one, h, List.map_append]
  rfl
section
variable {P : Program} {w : World} {K : PySem.W.Frag} {mg : Str → Option Value} {base : Heap} {C fi fe pp ps pt gp gs gt : Addr}
def spEnds : Sp := fun vs H Q _ => ∃ s p u : Int, vs = [.int s, .int p, .int u] ∧ 0 ≤ s ∧ s ≤ 1000 ∧ 0 < u ∧ u ≤ 1000 ∧ ∀ q, H q = none → Q (.ref q) (upd H q (.tup [.int (lo s p u), .int (hi s p u)]))
theorem in64 {i : Int} (h0 : -10000 ≤ i) (h1 : i ≤ 10000) : -(2 ^ 64) < i ∧ i < 2 ^ 64 := by
  have e : (2 : Int) ^ 64 = 18446744073709551616 := by decide
  rw [e]
  omega
theorem c_share_ends (T : Tx K mg C fi fe pp ps pt gp gs gt) : Cl P w K mg base 1 "share_ends" ["share", "people", "unit"] spEnds := by
  refine cl_of T.d_share_ends sc_share_ends bi_share_ends (fun vs H Q E h => ?_) (fun f cdv A outer s H vs Q E hr h => ?_)
  · obtain ⟨s, p, u, rfl, _⟩ := h
    rfl
  · obtain ⟨z, p, u, rfl, h0, h1, u0, u1, q⟩ := h
    refine ⟨_, pss_cons (ps_set (i := 3) sc_share_ends.nd rfl (.inl rfl) (pe_ifExp (pt_cmpR op_gt (pv 0) pe_int (nomark _))
        (pe_un un_neg (pe_op op_fdiv (pe_op op_mul (pe_op op_sub pe_int (pe_op op_mul pe_int (pv 0))) (pv 1)) (pe_op op_mul pe_int (pv 2)))) pe_int))
      (pss_one (ps_ret (pe_tup (pa_cons (pv 3) (pa_cons (pe_callB (call_min2 rfl) (by rfl) T.b_min (by decide +kernel) (pa_cons (pv 1) (pa_cons (pe_op op_fdiv (pe_op op_sub (pe_op op_mul (pe_op op_add (pe_op op_mul pe_int (pv 0)) pe_int) (pv 1)) pe_int) (pe_op op_mul pe_int (pv 2))) pa_nil))) pa_nil))))), ?_⟩
    have two : -(2 ^ 64) < (2 : Int) ∧ (2 : Int) < 2 ^ 64 := two64
    have rest : ∀ v : Int, v = lo z p u → tSeq (tAsg (fun _ H Q => Q (.int v) H) (gName 3)) (tRet (tTup (tCons (tVar 3) (tCons (tCB (fun xs H Q => ∃ i j, xs = [V.int i, .int j] ∧ Q (.int (if j < i then j else i)) H) (tCons (tVar 1) (tCons (tOp (rI CDiv fun i j => .int (i / j)) (tOp (rI0 fun i j => .int (i - j)) (tOp (rI CMul fun i j => .int (i * j)) (tOp (rI0 fun i j => .int (i + j)) (tOp (rI CMul fun i j => .int (i * j)) (tC (.int 2)) (tVar 0)) (tC (.int 1))) (tVar 1)) (tC (.int 1))) (tOp (rI CMul fun i j => .int (i * j)) (tC (.int 2)) (tVar 2))) tNil))) tNil)))) { nx := fun _ H' => Q .non H', rt := Q } (start n_share_ends [.int z, .int p, .int u]) H := by
      rintro v rfl
      refine ⟨_, rfl, _, rfl, _, rfl, _, _, rfl, rfl, .inl two, _, _, rfl, rfl, _, rfl, _, _, rfl, rfl, .inl (in64 (by omega) (by omega)), _, _, rfl, rfl, _, rfl, _, _, rfl, rfl, .inl two, _, _, rfl, rfl, ⟨by omega, by omega⟩, ?_⟩
      refine ⟨_, _, rfl, (by show 2 ≤ sizeLine; decide), fun q2 hq2 => ?_⟩
      exact q q2 hq2
    by_cases hz : z > 0
    · refine ⟨_, rfl, _, _, rfl, rfl, _, (dT (p := 0 < z) hz :), iteT ?_⟩
      refine ⟨_, rfl, _, _, rfl, rfl, .inl two, _, _, rfl, rfl, _, rfl, _, _, rfl, rfl, .inl (in64 (by omega) (by omega)), _, rfl, _, _, rfl, rfl, .inl two, _, _, rfl, rfl, ⟨by omega, by omega⟩, _, rfl, ?_⟩
      refine rest _ ?_
      unfold lo
      rw [if_pos hz]
    · refine ⟨_, rfl, _, _, rfl, rfl, _, (dF (p := 0 < z) hz :), iteF ?_⟩
      refine rest _ ?_
      unfold lo
      rw [if_neg hz]
def spStretch : Sp := fun vs H Q _ => ∃ s p pl : Int, vs = [.int s, .int p, .int pl] ∧ 0 ≤ s ∧ s ≤ 1000 ∧ 0 < p ∧ 0 ≤ pl ∧ pl ≤ 1 ∧
  ∀ (H' : Hp) (v : V), Same H H' → OptAt H' v ((stretch (unitOf pl) p s).map fun x => [x.1, x.2]) → Q v H'
theorem c_count_stretch (T : Tx K mg C fi fe pp ps pt gp gs gt) : Cl P w K mg base 4 "count_stretch" ["share", "people", "places"] spStretch := by
  refine cl_of T.d_count_stretch sc_count_stretch bi_count_stretch (fun vs H Q E h => ?_) (fun f cdv A outer s H vs Q E hr h => ?_)
  · obtain ⟨s, p, pl, rfl, _⟩ := h
    rfl
  · obtain ⟨z, p, pl, rfl, h0, h1, p0, l0, l1, q⟩ := h
    have qN : stretch (unitOf pl) p z = none → ∀ H', Same H H' → Q .non H' := fun e H' s => q H' _ s (.inl ⟨by rw [e]; rfl, rfl⟩)
    have qS : ∀ a b, stretch (unitOf pl) p z = some (a, b) → ∀ H' q, Same H H' → H' q = some (.tup [.int a, .int b]) → Q (.ref q) H' := fun a b e H' t s et => q H' _ s (.inr ⟨t, [a, b], by rw [e]; rfl, rfl, et⟩)
    obtain ⟨u, gu, hU⟩ := T.units
    refine ⟨_, pss_cons (ps_if (pt_not (pt_val (pc (c_is_within T) hr (by decide) (by rfl) (pa_cons (pv 0) (pa_cons pe_int (pa_cons (pe_callB (call_max2T rfl hr.units) (by rfl) T.b_max (by decide +kernel) (pa_cons (pe_glob (v := .ref u) (by rfl) gu rfl) pa_nil)) pa_nil)))))) pss_never pss_nil)
      (pss_cons (ps_expr (pc (c_check_people T) hr (by decide) (by rfl) (pa_cons (pv 1) pa_nil)))
      (pss_cons (ps_expr (pc (c_check_poll_places T) hr (by decide) (by rfl) (pa_cons (pv 2) pa_nil)))
      (pss_cons (ps_asg (pc (c_share_ends T) hr (by decide) (by rfl) (pa_cons (pv 0) (pa_cons (pv 1) (pa_cons (pe_ix ix_tup (pe_glob (v := .ref u) (by rfl) gu rfl) (pv 2) (fun _ _ => rfl)) pa_nil))))
        (pg_tup rfl (pgs_cons (pg_name (i := 3) sc_count_stretch.nd rfl (.inl rfl)) (pgs_cons (pg_name (i := 4) sc_count_stretch.nd rfl (.inl rfl)) pgs_nil))))
      (pss_one (ps_ret (pe_ifExp (PW.pt (pw_and (pt_cmpR op_le (pv 0) (pe_ix ix_tup (pe_glob (v := .ref u) (by rfl) gu rfl) (pv 2) (fun _ _ => rfl)) (nomark _)) (pw_and1 (pt_cmpR op_le (pv 3) (pv 4) (nomark _))))) (pe_tup (pa_cons (pv 3) (pa_cons (pv 4) pa_nil))) pe_non)))))), ?_⟩
    have hu := unit_pos pl
    refine ⟨_, rfl, u, rfl, hU H, z, 0, 1000, rfl, h0, h1, true, rfl, iteF ?_⟩
    refine ⟨_, rfl, p, rfl, p0, ?_⟩
    refine ⟨_, rfl, pl, rfl, l0, l1, ?_⟩
    refine ⟨_, rfl, _, rfl, _, rfl, u, _, pl, _, rfl, rfl, hU H, unit_at l0 l1, z, p, unitOf pl, rfl, h0, h1, hu.1, hu.2, fun t nt => ?_⟩
    have st := same_upd (o := .tup [V.int (lo z p (unitOf pl)), V.int (hi z p (unitOf pl))]) nt
    generalize hH : upd H t (.tup [V.int (lo z p (unitOf pl)), V.int (hi z p (unitOf pl))]) = H1 at st
    have e1 : H1 t = some (.tup [V.int (lo z p (unitOf pl)), V.int (hi z p (unitOf pl))]) := by rw [← hH, upd_same]
    refine ⟨t, _, rfl, .inl (.inl e1), rfl, _, _, rfl, _, _, rfl, rfl, ?_⟩
    refine ⟨_, rfl, _, rfl, u, _, pl, _, rfl, rfl, hU _, unit_at l0 l1, _, _, rfl, rfl, decide (z ≤ unitOf pl), rfl, ?_⟩
    by_cases c1 : z ≤ unitOf pl
    · rw [decide_eq_true c1]
      refine iteT ⟨_, rfl, _, rfl, _, _, rfl, rfl, decide (lo z p (unitOf pl) ≤ hi z p (unitOf pl)), rfl, ?_⟩
      by_cases c2 : lo z p (unitOf pl) ≤ hi z p (unitOf pl)
      · rw [decide_eq_true c2]
        refine iteT ⟨_, rfl, _, rfl, (by show 2 ≤ sizeLine; decide), fun t2 nt2 => ?_⟩
        exact qS _ _ (by unfold stretch; rw [if_pos ⟨c1, c2⟩]) _ t2 (st.trans (same_upd nt2)) upd_same
      · rw [decide_eq_false c2]
        exact iteF (qN (by unfold stretch; rw [if_neg fun y => c2 y.2]) _ st)
    · rw [decide_eq_false c1]
      refine iteF (iteF ?_)
      exact qN (by unfold stretch; rw [if_neg fun y => c1 y.1]) _ st
end
end K68
/-! a poll's ends, whether it fits, the first counts -/
namespace K68
open PySem PySem.Spec PyProof.Rows L2
theorem pairT {H : Hp} {as : List Addr} {e : EndL} (hl : as.length = e.length) (hp : ∀ (i : Nat) (a : Addr) (x : Int × Int), as[i]? = some a → e[i]? = some x → H a = some (.tup [.int x.1, .int x.2])) {i : Nat} {a : Addr} (h : as[i]? = some a) :
    ∃ x, e[i]? = some x ∧ H a = some (.tup [.int x.1, .int x.2]) := by
  have hi := (List.getElem?_eq_some_iff.mp h).1
  have he : e[i]? = some (e[i]'(by omega)) := List.getElem?_eq_getElem (by omega)
  exact ⟨_, he, hp i a _ h he⟩
theorem all_id {e : EndL} : ((e.map fun x => decide (x.1 ≤ x.2)).all id) = e.all fun x => decide (x.1 ≤ x.2) := by
  rw [List.all_map]
  rfl
section
variable {P : Program} {w : World} {K : PySem.W.Frag} {mg : Str → Option Value} {base : Heap} {C fi fe pp ps pt gp gs gt : Addr}
/-- a poll and people, as arguments -/
structure PollArg (K : PySem.W.Frag) (C : Addr) (H : Hp) (p : Addr) (pl n : Int) (S : List Int) : Prop where
  at_ : PollAt K C H p pl S
  l0 : 0 ≤ pl
  l1 : pl ≤ 1
  s0 : ∀ x ∈ S, 0 ≤ x ∧ x ≤ 1000
  len : S.length ≤ 6
  pos : 0 < n
theorem PollArg.same {H H' : Hp} {p : Addr} {pl n : Int} {S : List Int} (h : PollArg K C H p pl n S) (s : Same H H') : PollArg K C H' p pl n S := ⟨h.at_.same s, h.l0, h.l1, h.s0, h.len, h.pos⟩
def spAll (K : PySem.W.Frag) (C : Addr) : Sp := fun vs H Q _ => ∃ (p : Addr) (n pl : Int) (S : List Int), vs = [.ref p, .int n] ∧ PollArg K C H p pl n S ∧ ∀ H' l, Same H H' → H l = none → EndsAt H' l (ends (unitOf pl) n S) → Q (.ref l) H'
theorem c_all_ends (T : Tx K mg C fi fe pp ps pt gp gs gt) : Cl P w K mg base 4 "all_ends" ["poll", "people"] (spAll K C) := by
  refine cl_of T.d_all_ends sc_all_ends bi_all_ends (fun vs H Q E h => ?_) (fun f cdv A outer s H vs Q E hr h => ?_)
  · obtain ⟨p, n, pl, S, rfl, _⟩ := h
    rfl
  · obtain ⟨p, n, pl, S, rfl, hA, q⟩ := h
    obtain ⟨dx, t, e, hT⟩ := hA.at_.ex
    obtain ⟨fd, F, b⟩ := fn_shares (P := P) (w := w) (base := base) T
    refine ⟨_, pss_cons (ps_set (i := 2) sc_all_ends.nd rfl (.inr rfl) (pc (c_unit_of T) hr (by decide) (by rfl) (pa_cons (pv 0) pa_nil)))
      (pss_one (ps_ret (pe_lc (own := [("share", 3)]) (g := gName 3) (tt := tYes) (by rfl) sc_all_ends.nd (pi_tup (pe_prop (pv 0) T.cl T.shares F (hr.mono (by decide)) b .nil pass0 (by rfl))) (blkOk_by (N := n_all_ends) (sc := defScope s_all_ends) (by decide +kernel))
          (fun _ _ _ _ _ => pg_name (i := 3) sc_all_ends.nd rfl (Or.inl rfl)) (fun _ _ _ _ _ => pts_nil) (fun _ _ _ _ _ => pc (c_share_ends T) hr (by decide) (by rfl) (pa_cons (pv 3) (pa_cons (pv 1) (pa_cons (pv 2) pa_nil))))))), ?_⟩
    refine ⟨_, rfl, p, pl, S, rfl, hA.at_, hA.l0, hA.l1, ?_⟩
    refine ⟨_, rfl, p, dx, _, rfl, e, p, dx, _, _, rfl, e, pfl_shares _ _ _, t, rfl, ⟨_, hT⟩, fun D nD => ?_⟩
    refine lc_tup (K := K) (a := t) (xs := S.map V.int) (fun i H' => Same H H' ∧ H D = none ∧ ∃ as : List Addr, H' D = some (.lst (as.map V.ref)) ∧ as.length = i ∧ D ∉ as ∧ ∀ (j : Nat) (a : Addr) (x : Int × Int), as[j]? = some a → (ends (unitOf pl) n S)[j]? = some x → H' a = some (.tup [.int x.1, .int x.2])) ⟨same_upd nD, nD, [], upd_same, rfl, by simp, fun j a x h => by simp at h⟩ (fun i H' _ ⟨sm, _⟩ => same_tup sm hT) ?_ ?_
    · rintro i x H' hx ⟨sm, nD, as, eD, hl, hD, hp⟩
      obtain ⟨c, hc, rfl, hm⟩ := int_at hx
      have hi : i < S.length := (List.getElem?_eq_some_iff.mp hc).1
      have hu := unit_pos pl
      have h6 := hA.len
      refine ⟨rfl, yes (iteT ?_)⟩
      refine ⟨_, rfl, _, rfl, _, rfl, c, n, unitOf pl, rfl, (hA.s0 c hm).1, (hA.s0 c hm).2, hu.1, hu.2, fun q2 nq => ?_⟩
      have neD : D ≠ q2 := ne_of_none eD nq
      refine ⟨_, (upd_ne neD).trans eD, ?_, fun b o e => ?_, nD, as ++ [q2], ?_, ?_, ?_, ?_⟩
      · rw [List.length_map]
        exact lt_line (m := 6) (by omega) (by omega)
      · rw [upd_ne (ne_of_none e nD), upd_ne (ne_of_none (sm b o e) nq)]
        exact sm b o e
      · rw [upd_same, List.map_append]
        rfl
      · rw [List.length_append, hl]
        rfl
      · rw [List.mem_append, List.mem_singleton]
        exact fun z => z.elim hD neD
      · intro j a x ha he
        by_cases hj : j < as.length
        · rw [List.getElem?_append_left hj] at ha
          have h1 := hp j a x ha he
          have h2 : a ≠ D := fun z => hD (z ▸ List.mem_of_getElem? ha)
          rw [upd_ne h2, upd_ne (ne_of_none h1 nq)]
          exact h1
        · rw [List.getElem?_append_right (by omega)] at ha
          have hj2 : j - as.length = 0 := by
            have := (List.getElem?_eq_some_iff.mp ha).1
            simp at this
            omega
          rw [hj2] at ha
          have ea : q2 = a := Option.some.inj ha
          subst ea
          rw [upd_ne neD.symm, upd_same]
          have ej : j = i := by omega
          subst ej
          unfold ends at he
          rw [List.getElem?_map, hc] at he
          have ex := Option.some.inj he
          rw [← ex]
    · rintro H' ⟨sm, nD, as, eD, hl, hD, hp⟩
      rw [List.length_map] at hl
      exact q H' D sm nD ⟨as, eD, by rw [ends_len, hl], hp⟩
/-- what the walk over pairs asks of a turn -/
theorem gpair {K : PySem.W.Frag} {H : Hp} {a : Addr} {x y : Int} (h : H a = some (.tup [.int x, .int y])) : SqT K H a [.int x, .int y] := .inl (.inl h)
/-- what a comprehension asks of its walk -/
def LcGoal (J : It) (g : TG) (tt : TT) (te : TE) (vs : List Nat) (σ : L2.St) (H1 : Hp) (D : Addr) (Qd : Hp → Prop) : Prop :=
  ∃ W : Nat → Nat → Hp → Prop, (∃ m, W 0 m (upd H1 D (.lst []))) ∧ ∀ i m H, W i m H →
    (J.stop i H ∧ Qd H) ∨ (J.go i H ∧ ∃ Nx : Hp → Prop, (∀ H', Nx H' → ∃ m', m' < m ∧ W (i + 1) m' H') ∧ ∀ x H', J.yld i H x H' →
      g x (wipe σ vs) H' fun σ2 H2 => wipe σ2 vs = wipe σ vs ∧ tt σ2 H2 fun b H3 => if b = true then te σ2 H3 fun y H4 => ∃ acc, H4 D = some (.lst acc) ∧ acc.length < sizeLine ∧ Nx (upd H4 D (.lst (acc ++ [y]))) else Nx H3)
/-- a comprehension over a list of pairs -/
theorem lc_pairs {K : PySem.W.Frag} {te : TE} {σ : L2.St} {H1 : Hp} {l D : Addr} {as : List Addr} {e : EndL} (f : Int × Int → V) {i1 i2 : Nat} {vs : List Nat} {Qd : Hp → Prop} (nD : H1 D = none) (el : H1 l = some (.lst (as.map V.ref))) (hl : as.length = e.length)
    (hp : ∀ (i : Nat) (a : Addr) (x : Int × Int), as[i]? = some a → e[i]? = some x → H1 a = some (.tup [.int x.1, .int x.2])) (small : e.length ≤ 1000)
    (hw : ∀ u v : V, wipe (((wipe σ vs).set i1 (some u)).set i2 (some v)) vs = wipe σ vs)
    (ht : ∀ (x : Int × Int) (H2 : Hp) (Q2 : VK), Q2 (f x) H2 → te (((wipe σ vs).set i1 (some (.int x.1))).set i2 (some (.int x.2))) H2 Q2)
    (hd : ∀ H', Same H1 H' → H' D = some (.lst (e.map f)) → Qd H') :
    LcGoal (Itl K l) (gTup K 2 (gCons (gName i1) (gCons (gName i2) gNil))) tYes te vs σ H1 D Qd := by
  refine lc_list (K := K) (a := l) (xs := as.map V.ref) (fun i H' => Same H1 H' ∧ H' D = some (.lst ((e.take i).map f))) ⟨same_upd nD, upd_same⟩ (fun i H' _ ⟨sm, _⟩ => .inl (.inl (sm _ _ el))) ?_ ?_
  · rintro i x H' hx ⟨sm, eD⟩
    obtain ⟨a, ha, rfl⟩ := ref_at hx
    obtain ⟨y, hy, hT⟩ := pairT hl hp ha
    refine ⟨a, _, rfl, gpair (sm _ _ hT), rfl, _, _, rfl, _, _, rfl, rfl, hw _ _, yes (iteT ?_)⟩
    refine ht y H' _ ⟨_, eD, ?_, fun b o q => ?_, ?_⟩
    · rw [List.length_map, List.length_take]
      exact lt_line (m := 1000) (by omega) (by omega)
    · rw [upd_ne (ne_of_none q nD)]
      exact sm b o q
    · rw [upd_same, take_succ_map f hy]
  · rintro H' ⟨sm, eD⟩
    rw [List.length_map, hl, List.take_length] at eD
    exact hd H' sm eD
theorem sum_map1 {e : EndL} : ((e.map fun x => V.int x.1)) = (e.map (·.1)).map V.int := by rw [List.map_map]; rfl
theorem sum_map2 {e : EndL} : ((e.map fun x => V.int x.2)) = (e.map (·.2)).map V.int := by rw [List.map_map]; rfl
theorem pairs_same {H H' : Hp} {as : List Addr} {e : EndL} (s : Same H H') (hp : ∀ (i : Nat) (a : Addr) (x : Int × Int), as[i]? = some a → e[i]? = some x → H a = some (.tup [.int x.1, .int x.2])) :
    ∀ (i : Nat) (a : Addr) (x : Int × Int), as[i]? = some a → e[i]? = some x → H' a = some (.tup [.int x.1, .int x.2]) := fun i a x h1 h2 => s _ _ (hp i a x h1 h2)
def spFit (K : PySem.W.Frag) (C : Addr) : Sp := fun vs H Q _ => ∃ (p : Addr) (n pl : Int) (S : List Int), vs = [.ref p, .int n] ∧ PollArg K C H p pl n S ∧ ∀ H', Same H H' → Q (.bl (fitB (ends (unitOf pl) n S) n)) H'
theorem c_does_fit (T : Tx K mg C fi fe pp ps pt gp gs gt) : Cl P w K mg base 5 "does_fit" ["poll", "people"] (spFit K C) := by
  refine cl_of T.d_does_fit sc_does_fit bi_does_fit (fun vs H Q E h => ?_) (fun f cdv A outer s H vs Q E hr h => ?_)
  · obtain ⟨p, n, pl, S, rfl, _⟩ := h
    rfl
  · obtain ⟨p, n, pl, S, rfl, hA, q⟩ := h
    refine ⟨_, pss_cons (ps_set (i := 2) sc_does_fit.nd rfl (.inl rfl) (pc (c_all_ends T) hr (by decide) (by rfl) (pa_cons (pv 0) (pa_cons (pv 1) pa_nil))))
      (pss_cons (ps_if (pt_not (pt_val (pe_callB (cr_all rfl) (by rfl) T.b_all (by decide +kernel) (pa_cons (pe_lc (own := [("least", 3), ("greatest", 4)]) (g := gTup K 2 (gCons (gName 3) (gCons (gName 4) gNil))) (tt := tYes) (by rfl) sc_does_fit.nd (pi_list (pv 2)) (blkOk_by (N := n_does_fit) (sc := defScope s_does_fit) (by decide +kernel))
          (fun _ _ _ _ _ => pg_tup rfl (pgs_cons (pg_name (i := 3) sc_does_fit.nd rfl (.inl rfl)) (pgs_cons (pg_name (i := 4) sc_does_fit.nd rfl (.inl rfl)) pgs_nil))) (fun _ _ _ _ _ => pts_nil) (fun _ _ _ _ _ => pe_cmpR op_le (pv 3) (pv 4) (nomark _))) pa_nil)))) (pss_one (ps_ret pe_bl)) pss_nil)
      (pss_one (ps_ret (pe_chain op_le op_le
        (pe_callB (cr_sum rfl) (by rfl) T.b_sum (by decide +kernel) (pa_cons (pe_lc (own := [("least", 3), ("greatest", 4)]) (g := gTup K 2 (gCons (gName 3) (gCons (gName 4) gNil))) (tt := tYes) (by rfl) sc_does_fit.nd (pi_list (pv 2)) (blkOk_by (N := n_does_fit) (sc := defScope s_does_fit) (by decide +kernel))
          (fun _ _ _ _ _ => pg_tup rfl (pgs_cons (pg_name (i := 3) sc_does_fit.nd rfl (.inl rfl)) (pgs_cons (pg_name (i := 4) sc_does_fit.nd rfl (.inl rfl)) pgs_nil))) (fun _ _ _ _ _ => pts_nil) (fun _ _ _ _ _ => pv 3)) pa_nil))
        (pv 1)
        (pe_callB (cr_sum rfl) (by rfl) T.b_sum (by decide +kernel) (pa_cons (pe_lc (own := [("least", 3), ("greatest", 4)]) (g := gTup K 2 (gCons (gName 3) (gCons (gName 4) gNil))) (tt := tYes) (by rfl) sc_does_fit.nd (pi_list (pv 2)) (blkOk_by (N := n_does_fit) (sc := defScope s_does_fit) (by decide +kernel))
          (fun _ _ _ _ _ => pg_tup rfl (pgs_cons (pg_name (i := 3) sc_does_fit.nd rfl (.inl rfl)) (pgs_cons (pg_name (i := 4) sc_does_fit.nd rfl (.inl rfl)) pgs_nil))) (fun _ _ _ _ _ => pts_nil) (fun _ _ _ _ _ => pv 4)) pa_nil)))))), ?_⟩
    refine ⟨_, rfl, _, rfl, p, n, pl, S, rfl, hA, fun H1 l s1 nl hE => ?_⟩
    obtain ⟨as, el, hl, hp⟩ := hE.ex
    generalize he : ends (unitOf pl) n S = e at *
    have h6 : e.length ≤ 6 := by
      rw [← he, ends_len]
      exact hA.len
    refine ⟨_, rfl, l, rfl, ⟨_, .inl (.inl el)⟩, fun D nD => ?_⟩
    refine lc_pairs (fun x => .bl (decide (x.1 ≤ x.2))) nD el hl hp (by omega) ?_ ?_ ?_
    · exact fun _ _ => rfl
    · exact fun x H2 Q2 hQ => ⟨_, rfl, _, rfl, _, _, rfl, rfl, hQ⟩
    intro H2 s2 eD
    refine ⟨D, e.map fun x => decide (x.1 ≤ x.2), rfl, .inl (.inl (by rw [eD, List.map_map]; rfl)), _, rfl, ?_⟩
    rw [all_id]
    by_cases ha : (e.all fun x => decide (x.1 ≤ x.2)) = true
    · rw [ha]
      refine iteF ?_
      have el2 := s2 _ _ el
      have hp2 := pairs_same s2 hp
      refine ⟨_, rfl, l, rfl, ⟨_, .inl (.inl el2)⟩, fun D3 nD3 => ?_⟩
      refine lc_pairs (fun x => .int x.1) nD3 el2 hl hp2 (by omega) ?_ ?_ ?_
      · exact fun _ _ => rfl
      · exact fun x H2 Q2 hQ => ⟨_, rfl, hQ⟩
      intro H3 s3 eD3
      refine ⟨D3, e.map (·.1), rfl, .inl (.inl (by rw [eD3, sum_map1])), _, rfl, _, _, rfl, rfl, decide (mins e ≤ n), rfl, ?_⟩
      have fb : fitB e n = (decide (mins e ≤ n) && decide (n ≤ maxs e)) := by
        unfold fitB
        rw [ha]
        rfl
      have s13 := s1.trans (s2.trans s3)
      by_cases hm : mins e ≤ n
      · rw [decide_eq_true hm]
        rw [decide_eq_true hm, Bool.true_and] at fb
        refine iteT ?_
        have el3 := s3 _ _ el2
        have hp3 := pairs_same s3 hp2
        refine ⟨_, rfl, l, rfl, ⟨_, .inl (.inl el3)⟩, fun D4 nD4 => ?_⟩
        refine lc_pairs (fun x => .int x.2) nD4 el3 hl hp3 (by omega) ?_ ?_ ?_
        · exact fun _ _ => rfl
        · exact fun x H2 Q2 hQ => ⟨_, rfl, hQ⟩
        intro H4 s4 eD4
        refine ⟨D4, e.map (·.2), rfl, .inl (.inl (by rw [eD4, sum_map2])), _, _, rfl, rfl, ?_⟩
        have := q H4 (s13.trans s4)
        rw [fb] at this
        exact this
      · rw [decide_eq_false hm]
        rw [decide_eq_false hm, Bool.false_and] at fb
        refine iteF ?_
        have := q H3 s13
        rw [fb] at this
        exact this
    · have hf : (e.all fun x => decide (x.1 ≤ x.2)) = false := by simpa using ha
      rw [hf]
      refine iteT ?_
      have fb : fitB e n = false := by
        unfold fitB
        rw [hf]
        rfl
      have := q H2 (s1.trans s2)
      rw [fb] at this
      exact this
def spFitP (K : PySem.W.Frag) (C : Addr) : Sp := spFit K C
theorem c_does_fit_people (T : Tx K mg C fi fe pp ps pt gp gs gt) : Cl P w K mg base 6 "does_fit_people" ["poll", "people"] (spFit K C) := by
  refine cl_of T.d_does_fit_people sc_does_fit_people bi_does_fit_people (fun vs H Q E h => ?_) (fun f cdv A outer s H vs Q E hr h => ?_)
  · obtain ⟨p, n, pl, S, rfl, _⟩ := h
    rfl
  · obtain ⟨p, n, pl, S, rfl, hA, q⟩ := h
    refine ⟨_, pss_cons (ps_expr (pc (c_check_poll T) hr (by decide) (by rfl) (pa_cons (pv 0) pa_nil))) (pss_cons (ps_expr (pc (c_check_people T) hr (by decide) (by rfl) (pa_cons (pv 1) pa_nil)))
      (pss_one (ps_ret (pc (c_does_fit T) hr (by decide) (by rfl) (pa_cons (pv 0) (pa_cons (pv 1) pa_nil)))))), ?_⟩
    refine ⟨_, rfl, p, pl, S, rfl, hA.at_, ?_⟩
    refine ⟨_, rfl, n, rfl, hA.pos, ?_⟩
    exact ⟨_, rfl, _, rfl, p, n, pl, S, rfl, hA, q⟩
end
end K68
/-! the first counts -/
namespace K68
open PySem PySem.Spec PyProof.Rows L2
theorem greedy_len : ∀ (e : EndL) (r : Int), (greedy e r).length = e.length
  | [], _ => rfl
  | (l, g) :: e, r => by
    show (greedy e _).length + 1 = e.length + 1
    rw [greedy_len e]
section
variable {P : Program} {w : World} {K : PySem.W.Frag} {mg : Str → Option Value} {base : Heap} {C fi fe pp ps pt gp gs gt : Addr}
def spFirst (K : PySem.W.Frag) (C : Addr) : Sp := fun vs H Q _ => ∃ (p : Addr) (n pl : Int) (S : List Int), vs = [.ref p, .int n] ∧ PollArg K C H p pl n S ∧
  ∀ (H' : Hp) (v : V), Same H H' → OptAt H' v (firstOf (unitOf pl) n S) → Q v H'
theorem c_first_counts (T : Tx K mg C fi fe pp ps pt gp gs gt) : Cl P w K mg base 6 "first_counts" ["poll", "people"] (spFirst K C) := by
  refine cl_of T.d_first_counts sc_first_counts bi_first_counts (fun vs H Q E h => ?_) (fun f cdv A outer s H vs Q E hr h => ?_)
  · obtain ⟨p, n, pl, S, rfl, _⟩ := h
    rfl
  · obtain ⟨p, n, pl, S, rfl, hA, q⟩ := h
    have qN : firstOf (unitOf pl) n S = none → ∀ H', Same H H' → Q .non H' := fun e H' s => q H' _ s (.inl ⟨e, rfl⟩)
    have qS : ∀ cs, firstOf (unitOf pl) n S = some cs → ∀ H' q, Same H H' → H' q = some (.tup (cs.map V.int)) → Q (.ref q) H' := fun cs e H' t s et => q H' _ s (.inr ⟨t, cs, e, rfl, et⟩)
    refine ⟨_, pss_cons (ps_expr (pc (c_check_poll T) hr (by decide) (by rfl) (pa_cons (pv 0) pa_nil))) (pss_cons (ps_expr (pc (c_check_people T) hr (by decide) (by rfl) (pa_cons (pv 1) pa_nil)))
      (pss_cons (ps_if (pt_not (pt_val (pc (c_does_fit T) hr (by decide) (by rfl) (pa_cons (pv 0) (pa_cons (pv 1) pa_nil))))) (pss_one (ps_ret pe_non)) pss_nil)
      (pss_cons (ps_par3 (i := 2) (j := 3) (l := 4) (by rfl) sc_first_counts.nd rfl rfl rfl (by decide) (by decide) (by decide) rfl rfl rfl (pa_cons (pc (c_all_ends T) hr (by decide) (by rfl) (pa_cons (pv 0) (pa_cons (pv 1) pa_nil))) (pa_cons (pv 1) (pa_cons (pe_lst pa_nil) pa_nil))) (by rfl))
      (pss_cons (ps_for PassesOwn.never rfl (pi_enum (by rfl) T.b_enumerate (pa_cons (pv 2) pa_nil)) (pg_tup rfl (pgs_cons (pg_name (i := 5) sc_first_counts.nd rfl (.inl rfl)) (pgs_cons (pg_tup rfl (pgs_cons (pg_name (i := 6) sc_first_counts.nd rfl (.inl rfl)) (pgs_cons (pg_name (i := 7) sc_first_counts.nd rfl (.inl rfl)) pgs_nil))) pgs_nil)))
        (pss_cons (ps_set (i := 8) sc_first_counts.nd rfl (.inl rfl) (pe_callB (call_max2 rfl) (by rfl) T.b_max (by decide +kernel) (pa_cons (pv 6) (pa_cons (pe_op op_sub (pv 3) (pe_callB (cr_sum rfl) (by rfl) T.b_sum (by decide +kernel)
            (pa_cons (pe_lc (own := [("few", 9), ("most", 10)]) (g := gTup K 2 (gCons (gName 9) (gCons (gName 10) gNil))) (tt := tYes) (by rfl) sc_first_counts.nd (pi_list (pe_slice sl_list (pv 2) (po_some (pe_op op_add (pv 5) pe_int)) po_none)) (blkOk_by (N := n_first_counts) (sc := defScope s_first_counts) (by decide +kernel))
              (fun _ _ _ _ _ => pg_tup rfl (pgs_cons (pg_name (i := 9) sc_first_counts.nd rfl (.inl rfl)) (pgs_cons (pg_name (i := 10) sc_first_counts.nd rfl (.inl rfl)) pgs_nil))) (fun _ _ _ _ _ => pts_nil) (fun _ _ _ _ _ => pv 10)) pa_nil))) pa_nil))))
        (pss_cons (ps_expr (pe_bm PySem.F.plainAttrs_list PySem.F.slot_list_append PySem.F.type_list_append mt_append (pv 4) (pa_cons (pv 8) pa_nil)))
        (pss_one (ps_set (i := 3) sc_first_counts.nd rfl (.inl rfl) (pe_op op_sub (pv 3) (pv 8)))))))
      (pss_one (ps_ret (pe_callTy call_tuple_of (by rfl) T.b_tuple (by decide +kernel) (pa_cons (pv 4) pa_nil)))))))), ?_⟩
    refine ⟨_, rfl, p, pl, S, rfl, hA.at_, ?_⟩
    refine ⟨_, rfl, n, rfl, hA.pos, ?_⟩
    refine ⟨_, rfl, _, rfl, p, n, pl, S, rfl, hA, fun H1 s1 => ⟨_, rfl, ?_⟩⟩
    by_cases hf : fitB (ends (unitOf pl) n S) n = true
    · rw [hf]
      refine iteF ?_
      refine ⟨_, rfl, _, rfl, p, n, pl, S, rfl, hA.same s1, fun H2 l s2 nl hE => ?_⟩
      obtain ⟨as, el, hl, hp⟩ := hE.ex
      have hff : firstOf (unitOf pl) n S = some (greedy (ends (unitOf pl) n S) n) := by
        unfold firstOf
        rw [if_pos hf]
      have he6 : (ends (unitOf pl) n S).length ≤ 6 := by
        rw [ends_len]
        exact hA.len
      generalize ends (unitOf pl) n S = e at *
      have qS2 := qS _ hff
      refine ⟨_, rfl, (by show 0 ≤ sizeLine; exact Nat.zero_le _), fun F nF => ?_⟩
      refine ⟨_, _, _, rfl, ?_⟩
      have s12 : Same H H2 := s1.trans s2
      have s3 := same_upd (o := .lst []) nF
      refine ⟨_, rfl, l, as.map V.ref, rfl, .inl (.inl (s3 _ _ el)), ?_⟩
      refine for_steps (J := Ite K l) e.length (fun i σ H' => ∃ (r : Int) (done : List Int) (y5 y6 y7 y8 : Option V), σ = [some (.ref p), some (.int n), some (.ref l), some (.int r), some (.ref F), y5, y6, y7, y8, none, none] ∧ Same H2 H' ∧ H' F = some (.lst (done.map V.int)) ∧ done.length = i ∧ done ++ greedy (e.drop i) r = greedy e n)
        ⟨n, [], none, none, none, none, rfl, s3, upd_same, rfl, rfl⟩ (fun σ H' ⟨_, _, _, _, _, _, _, sm, _⟩ => ⟨_, .inl (.inl (sm _ _ el)), by rw [List.length_map, hl]; exact Nat.le_refl _⟩)
        (fun i σ H' hi ⟨_, _, _, _, _, _, _, sm, _⟩ => ⟨_, .ref (as[i]'(by omega)), .inl (.inl (sm _ _ el)), by rw [List.getElem?_map, List.getElem?_eq_getElem]; rfl⟩) ?_ ?_
      · rintro i σ H3 x H4 hi ⟨r, done, y5, y6, y7, y8, rfl, sm, eF, hdl, hg⟩ ⟨T2, y, rfl, nT, rfl, hy⟩
        have ey := hy _ (.inl (.inl (sm _ _ el)))
        obtain ⟨a, ha, rfl⟩ := ref_at ey
        obtain ⟨z, hz, hTz⟩ := pairT hl hp ha
        have sT := same_upd (o := .tup [V.int (i : Nat), V.ref a]) nT
        have sm4 : Same H2 (upd H3 T2 (.tup [V.int (i : Nat), V.ref a])) := sm.trans sT
        have eF4 : (upd H3 T2 (.tup [V.int (i : Nat), V.ref a])) F = some (.lst (done.map V.int)) := sT _ _ eF
        have eT4 : (upd H3 T2 (.tup [V.int (i : Nat), V.ref a])) T2 = some (.tup [V.int (i : Nat), V.ref a]) := upd_same
        generalize upd H3 T2 (.tup [V.int (i : Nat), V.ref a]) = H4 at *
        refine ⟨T2, _, rfl, .inl (.inl eT4), rfl, _, _, rfl, _, _, rfl, ⟨a, _, rfl, gpair (sm4 _ _ hTz), rfl, _, _, rfl, _, _, rfl, rfl, rfl, ?_⟩⟩
        refine ⟨_, rfl, _, rfl, _, rfl, _, rfl, _, _, rfl, rfl, _, rfl, l, _, rfl, .inl (.inl (sm4 _ _ el)), fun c nc => ?_⟩
        have sC := same_upd (o := .lst (cutV (as.map V.ref) (some (((i : Nat) : Int) + 1)) none)) nc
        have eC : (upd H4 c (.lst (cutV (as.map V.ref) (some (((i : Nat) : Int) + 1)) none))) c = some (.lst ((as.drop (i + 1)).map V.ref)) := by
          rw [upd_same, show ((i : Nat) : Int) + 1 = ((i + 1 : Nat) : Int) from rfl, cut_from, List.map_drop]
        have sm5 := sm4.trans sC
        have eF5 := sC _ _ eF4
        generalize upd H4 c (.lst (cutV (as.map V.ref) (some (((i : Nat) : Int) + 1)) none)) = H5 at *
        refine ⟨c, rfl, ⟨_, .inl (.inl eC)⟩, fun D nD => ?_⟩
        refine lc_pairs (as := as.drop (i + 1)) (e := e.drop (i + 1)) (fun x => .int x.2) nD eC ?_ ?_ ?_ ?_ ?_ ?_
        · rw [List.length_drop, List.length_drop, hl]
        · intro j a x h1 h2
          rw [List.getElem?_drop] at h1 h2
          exact sm5 _ _ (hp _ a x h1 h2)
        · rw [List.length_drop]
          omega
        · exact fun _ _ => rfl
        · exact fun x H2 Q2 hQ => ⟨_, rfl, hQ⟩
        intro H6 s6 eD
        have eF6 := s6 _ _ eF5
        have sm6 := sm5.trans s6
        refine ⟨D, (e.drop (i + 1)).map (·.2), rfl, .inl (.inl (by rw [eD, sum_map2])), _, _, rfl, rfl, _, _, rfl, ?_⟩
        refine ⟨_, rfl, .inl ⟨rfl, _, .inl (.inl eF6)⟩, _, rfl, F, _, _, rfl, rfl, eF6, ?_, ?_⟩
        · rw [List.length_map]
          exact lt_line (m := 6) (by omega) (by omega)
        · refine ⟨_, rfl, _, rfl, _, _, rfl, rfl, ?_⟩
          have hdr : e.drop i = z :: e.drop (i + 1) := by
            obtain ⟨h1, h2⟩ := List.getElem?_eq_some_iff.mp hz
            rw [List.drop_eq_getElem_cons h1, h2]
          rw [hdr] at hg
          obtain ⟨z1, z2⟩ := z
          have hg2 : done ++ ((if r - maxs (e.drop (i + 1)) > z1 then r - maxs (e.drop (i + 1)) else z1) :: greedy (e.drop (i + 1)) (r - (if r - maxs (e.drop (i + 1)) > z1 then r - maxs (e.drop (i + 1)) else z1))) = greedy e n := hg
          refine ⟨_, done ++ [if r - maxs (e.drop (i + 1)) > z1 then r - maxs (e.drop (i + 1)) else z1], _, _, _, _, rfl, fun b o q => ?_, ?_, ?_, ?_⟩
          · rw [upd_ne (ne_of_none q nF)]
            exact sm6 b o q
          · rw [upd_same, List.map_append]
            rfl
          · rw [List.length_append, hdl]
            rfl
          · rw [List.append_assoc]
            exact hg2
      · rintro σ H3 ⟨r, done, y5, y6, y7, y8, rfl, sm, eF, hdl, hg⟩
        rw [List.drop_length] at hg
        have hg2 : done = greedy e n := by
          rw [← hg]
          show done = done ++ []
          rw [List.append_nil]
        refine ⟨_, rfl, F, _, rfl, .inl ⟨.inl (.inl eF), fun q2 nq => ?_⟩⟩
        refine qS2 _ q2 ((s12.trans sm).trans (same_upd nq)) ?_
        rw [upd_same, hg2]
    · have hf2 : fitB (ends (unitOf pl) n S) n = false := by simpa using hf
      rw [hf2]
      refine iteT (qN ?_ H1 s1)
      unfold firstOf
      rw [if_neg hf]
end
end K68
/-! the law's own defs: draws, shares -/
namespace K68
open PySem PySem.Spec PyProof.Rows L2
/-- a well stands at W -/
def Wl (H : Hp) (W : Addr) : Prop := ∃ a b c : Int, 0 ≤ a ∧ 0 ≤ b ∧ b < 2147483423 ∧ H W = some (.lst [.int a, .int b, .int c])
/-- all but W stands -/
def Keep (W : Addr) (H H' : Hp) : Prop := ∀ b o, b ≠ W → H b = some o → H' b = some o
theorem Keep.of_same {W : Addr} {H H' : Hp} (s : Same H H') : Keep W H H' := fun b o _ e => s b o e
theorem Keep.refl (W : Addr) (H : Hp) : Keep W H H := fun _ _ _ e => e
theorem Keep.trans {W : Addr} {H H1 H2 : Hp} (a : Keep W H H1) (b : Keep W H1 H2) : Keep W H H2 := fun c o n e => b c o n (a c o n e)
theorem Wl.same {W : Addr} {H H' : Hp} (h : Wl H W) (s : Same H H') : Wl H' W := by
  obtain ⟨a, b, c, ha, hb, hb2, e⟩ := h
  exact ⟨a, b, c, ha, hb, hb2, s _ _ e⟩
theorem Keep.tup {K : PySem.W.Frag} {W t : Addr} {H H' : Hp} {xs : List V} (k : Keep W H H') (hW : Wl H W) (h : SqT K H t xs) : SqT K H' t xs := by
  obtain ⟨a, b, c, _, _, _, e⟩ := hW
  exact keep_tup k e (fun _ z => nomatch z) (fun _ _ z => nomatch z) h
theorem keep_upd {W p : Addr} {H H' : Hp} {o : HO} (k : Keep W H H') (n : H' p = none) : Keep W H (upd H' p o) := fun b u nb e => by
  have e2 := k b u nb e
  rw [upd_ne (ne_of_none e2 n)]
  exact e2
theorem cut_to (ns : List Int) (k : Nat) : ∃ ms : List Int, cutV (ns.map V.int) none (some (k : Int)) = ms.map V.int ∧ ms.length ≤ ns.length := by
  unfold cutV
  rw [HT.sIx_none, HT.sIx_nat, List.drop_zero, Nat.sub_zero]
  exact ⟨ns.take (min k (ns.map V.int).length), by rw [List.map_take], by rw [List.length_take]; omega⟩
section
variable {P : Program} {w : World} {K : PySem.W.Frag} {mg : Str → Option Value} {base : Heap} {C fi fe pp ps pt gp gs gt : Addr}
def spWell (K : PySem.W.Frag) : Sp := fun vs H Q _ => ∃ (a : Addr) (ns : List Int) (k : Int), vs = [.ref a, .int k] ∧ SqL K H a (ns.map V.int) ∧ ns.length ≤ 63 ∧ 0 ≤ k ∧ k ≤ 1 ∧ ∀ H' W, Same H H' → H W = none → Wl H' W → Q (.ref W) H'
theorem in64b {i : Int} (h0 : 0 ≤ i) (h1 : i < 2147483423) : -(2 ^ 64) < i ∧ i < 2 ^ 64 := by
  have e : (2 : Int) ^ 64 = 18446744073709551616 := by decide
  rw [e]
  omega
theorem c_well (T : Tx K mg C fi fe pp ps pt gp gs gt) : Cl P w K mg base 1 "_law_well" ["_law_script", "_law_k"] (spWell K) := by
  refine cl_of T.d__law_well sc__law_well bi__law_well (fun vs H Q E h => ?_) (fun f cdv A outer s H vs Q E hr h => ?_)
  · obtain ⟨a, ns, k, rfl, _⟩ := h
    rfl
  · obtain ⟨a, ns, k, rfl, hS, hl, k0, k1, q⟩ := h
    refine ⟨_, pss_cons (ps_set (i := 2) sc__law_well.nd rfl (.inl rfl) (pe_ifExp (pt_cmpR op_lt (pv 1) (pe_callB call_len_seq (by rfl) T.b_len PySem.boot_len (pa_cons (pv 0) pa_nil)) (nomark _))
        (pe_callTy call_int1 (by rfl) T.b_int (by decide +kernel) (pa_cons (pe_ix ix_list (pv 0) (pv 1) (fun _ _ => rfl)) pa_nil)) (pe_op op_add (pe_op op_mul pe_int (pv 1)) pe_int)))
      (pss_cons (ps_set (i := 3) sc__law_well.nd rfl (.inl rfl) (pe_op op_add pe_int (pe_op op_mul pe_int (pv 1))))
      (pss_cons (ps_for PassesOwn.never rfl (pi_list (pe_op op_cat (pe_slice sl_list (pv 0) po_none (po_some pe_int)) (pe_lst (pa_cons (pv 2) pa_nil)))) (pg_name (i := 4) sc__law_well.nd rfl (.inl rfl))
        (pss_one (ps_set (i := 3) sc__law_well.nd rfl (.inl rfl) (pe_op op_mod (pe_callTy call_int1 (by rfl) T.b_int (by decide +kernel) (pa_cons (pe_op op_add (pe_op op_mul (pv 3) pe_int) (pe_callTy call_int1 (by rfl) T.b_int (by decide +kernel) (pa_cons (pv 4) pa_nil))) pa_nil)) pe_int))))
      (pss_one (ps_ret (pe_lst (pa_cons (pe_ifExp (PW.pt (pw_or (pt_cmpR op_lt (pv 2) pe_int (nomark _)) (pw_or1 (pt_cmpR op_ge (pv 2) (pe_op op_pow pe_int pe_int) (nomark _))))) (pe_callB call_abs (by rfl) T.b_abs (by decide +kernel) (pa_cons (pv 2) pa_nil)) pe_int)
        (pa_cons (pv 3) (pa_cons pe_int pa_nil)))))))), ?_⟩
    have l1 : (ns.map V.int).length = ns.length := List.length_map _
    suffices rest : ∀ own : Int, tSeq _ _ _ (start n__law_well [.ref a, .int k] |>.set 2 (some (.int own))) H from by
      refine ⟨_, rfl, _, rfl, a, _, rfl, .inl hS, _, _, rfl, rfl, decide (k < ((ns.map V.int).length : Int)), rfl, ?_⟩
      by_cases hk : k < ((ns.map V.int).length : Int)
      · rw [decide_eq_true hk]
        obtain ⟨j, rfl⟩ : ∃ j : Nat, k = (j : Int) := ⟨k.toNat, by omega⟩
        have hj : j < ns.length := by omega
        refine iteT ⟨_, rfl, _, rfl, a, _, _, .int ns[j], rfl, rfl, hS, atI_nat (by rw [List.getElem?_map, List.getElem?_eq_getElem hj]; rfl), .inl ⟨_, rfl, ?_⟩⟩
        exact rest _
      · rw [decide_eq_false hk]
        refine iteF ⟨_, rfl, _, _, rfl, rfl, .inl (by decide), _, _, rfl, rfl, ?_⟩
        exact rest _
    intro own
    refine ⟨_, rfl, _, _, rfl, rfl, .inl (by decide), _, _, rfl, rfl, ?_⟩
    refine ⟨_, rfl, _, rfl, a, _, rfl, hS, fun p np => ?_⟩
    obtain ⟨ms, hms, hml⟩ := cut_to ns 40
    have hms2 : cutV (ns.map V.int) none (some 40) = ms.map V.int := hms
    rw [hms2]
    have sp := same_upd (o := .lst (ms.map V.int)) np
    have ep : (upd H p (.lst (ms.map V.int))) p = some (.lst (ms.map V.int)) := upd_same
    generalize upd H p (.lst (ms.map V.int)) = H1 at *
    refine ⟨_, rfl, (by show 1 ≤ sizeLine; decide), fun r nr => ?_⟩
    have sr := same_upd (o := .lst [V.int own]) nr
    have er : (upd H1 r (.lst [V.int own])) r = some (.lst [V.int own]) := upd_same
    generalize upd H1 r (.lst [V.int own]) = H2 at *
    refine ⟨p, r, _, _, rfl, rfl, sr _ _ ep, er, ?_, fun z nz => ?_⟩
    · rw [List.length_map]
      exact Nat.le_of_lt (lt_line (m := 64) (by show ms.length + 1 ≤ 64; omega) (by omega))
    · have sz := same_upd (o := .lst (ms.map V.int ++ [V.int own])) nz
      have ez : (upd H2 z (.lst (ms.map V.int ++ [V.int own]))) z = some (.lst ((ms ++ [own]).map V.int)) := by
        rw [upd_same, List.map_append]
        rfl
      generalize upd H2 z (.lst (ms.map V.int ++ [V.int own])) = H3 at *
      have s3 : Same H H3 := sp.trans (sr.trans sz)
      refine ⟨z, rfl, ⟨_, .inl (.inl ez)⟩, ?_⟩
      refine for_list (K := K) (a := z) (xs := (ms ++ [own]).map V.int) (fun i σ H' => H' = H3 ∧ ∃ (m : Int) (y : Option V), σ = [some (.ref a), some (.int k), some (.int own), some (.int m), y] ∧ 0 ≤ m ∧ m < 2147483423) ⟨rfl, _, none, rfl, by omega, by omega⟩ (fun i σ H' _ ⟨e, _⟩ => by rw [e]; exact .inl (.inl ez)) ?_ ?_
      · rintro i x σ H' hx ⟨rfl, m, y, rfl, m0, m1⟩
        obtain ⟨n, _, rfl, _⟩ := int_at hx
        refine ⟨_, rfl, _, _, rfl, rfl, .inl (in64b m0 m1), _, rfl, .inl ⟨_, rfl, _, _, rfl, rfl, .inl ⟨_, rfl, _, _, rfl, rfl, (by show (0 : Int) < 2147483423; decide), rfl, _, _, rfl, ?_, ?_⟩⟩⟩
        · exact Int.emod_nonneg _ (by decide)
        · exact Int.emod_lt_of_pos _ (by decide)
      · rintro σ H' ⟨rfl, m, y, rfl, m0, m1⟩
        have fin : ∀ v : Int, 0 ≤ v → ∀ W, H' W = none → Q (.ref W) (upd H' W (.lst [.int v, .int m, .int 0])) := fun v v0 W nW =>
          q _ W (s3.trans (same_upd nW)) (s3.free nW) ⟨v, m, 0, v0, m0, m1, upd_same⟩
        have z3 : ∀ v : Int, ([V.int v, V.int m, V.int 0] : List V).length ≤ sizeLine := fun v => by
          show 3 ≤ sizeLine
          decide
        refine ⟨_, rfl, _, _, rfl, rfl, decide (own < 0), rfl, ?_⟩
        by_cases o0 : own < 0
        · rw [decide_eq_true o0]
          refine iteT (iteT ⟨_, rfl, _, rfl, _, rfl, z3 _, fin _ (by rw [if_pos o0]; omega)⟩)
        · rw [decide_eq_false o0]
          refine iteF ⟨_, rfl, _, _, rfl, rfl, ⟨by decide, by decide, by decide⟩, _, _, rfl, rfl, decide ((10 : Int) ^ (18 : Int).toNat ≤ own), rfl, ?_⟩
          by_cases o1 : (10 : Int) ^ (18 : Int).toNat ≤ own
          · rw [decide_eq_true o1]
            exact iteT ⟨_, rfl, _, rfl, _, rfl, z3 _, fin _ (by rw [if_neg o0]; omega)⟩
          · rw [decide_eq_false o1]
            exact iteF ⟨_, rfl, z3 _, fin 0 (by omega)⟩
end
end K68
/-! the law's own defs: a draw, one of a menu, the share next to a count -/
namespace K68
open PySem PySem.Spec PyProof.Rows L2
section
variable {P : Program} {w : World} {K : PySem.W.Frag} {mg : Str → Option Value} {base : Heap} {C fi fe pp ps pt gp gs gt : Addr}
def spDraw : Sp := fun vs H Q _ => ∃ (W : Addr) (t : Int), vs = [.ref W, .int t] ∧ 0 < t ∧ t < 2 ^ 200 ∧ Wl H W ∧ ∀ H' v, 0 ≤ v → v < t → Keep W H H' → Wl H' W → Q (.int v) H'
theorem set3_0 (x y z v : V) : ([x, y, z] : List V).set 0 v = [v, y, z] := rfl
theorem keep_put {W : Addr} {H H1 : Hp} {o : HO} (k : Keep W H H1) : Keep W H (upd H1 W o) := fun b u nb e => by
  rw [upd_ne nb]
  exact k b u nb e
theorem nopy {i t : Int} (h0 : 0 < t) (h : t < 2 ^ 200) : CDivP i t := by
  refine ⟨h0, PyProof.noPylong_of_log2 ?_⟩
  have h2 : ((2 ^ 200 : Nat) : Int) = 2 ^ 200 := by decide
  have := PySem.Flt.log2_lt_of (n := t.natAbs) (k := 200) (by decide) (by omega)
  omega
theorem c_draw (T : Tx K mg C fi fe pp ps pt gp gs gt) : Cl P w K mg base 1 "_law_draw" ["_law_well_here", "_law_top"] spDraw := by
  refine cl_of T.d__law_draw sc__law_draw bi__law_draw (fun vs H Q E h => ?_) (fun f cdv A outer s H vs Q E hr h => ?_)
  · obtain ⟨W, t, rfl, _⟩ := h
    rfl
  · obtain ⟨W, t, rfl, t0, t1, ⟨a, b, c, a0, b0, b1, eW⟩, q⟩ := h
    refine ⟨_, pss_cons (ps_asg (pe_op op_add (pe_ix ix_list (pv 0) pe_int (fun _ _ => rfl)) pe_int) (pg_sub (pv 0) pe_int set_list))
      (pss_cons (ps_set (i := 2) sc__law_draw.nd rfl (.inl rfl) (pe_callTy call_int1 (by rfl) T.b_int (by decide +kernel) (pa_cons (pe_ix ix_list (pv 0) pe_int (fun _ _ => rfl)) pa_nil)))
      (pss_cons (ps_asg (pe_op op_mod (pe_callTy call_int1 (by rfl) T.b_int (by decide +kernel) (pa_cons (pe_op op_add (pe_op op_add (pe_op op_mul (pv 2) (pe_op op_add (pe_op op_mod (pe_callTy call_int1 (by rfl) T.b_int (by decide +kernel) (pa_cons (pv 2) pa_nil)) pe_int) pe_int))
          (pe_op op_mul pe_int (pe_ix ix_list (pv 0) pe_int (fun _ _ => rfl)))) pe_int) pa_nil)) pe_int) (pg_sub (pv 0) pe_int set_list))
      (pss_cons (ps_if (pt_cmpR op_gt (pe_ix ix_list (pv 0) pe_int (fun _ _ => rfl)) pe_int (nomark _))
        (pss_cons (ps_asg (pe_callB call_divmodW (by rfl) T.b_divmod (by decide +kernel) (pa_cons (pe_ix ix_list (pv 0) pe_int (fun _ _ => rfl)) (pa_cons (pv 1) pa_nil))) (pg_tup rfl (pgs_cons (pg_sub (pv 0) pe_int set_list) (pgs_cons (pg_name (i := 3) sc__law_draw.nd rfl (.inl rfl)) pgs_nil))))
          (pss_one (ps_ret (pv 3)))) pss_nil)
      (pss_one (ps_ret (pe_op op_mod (pe_callTy call_int1 (by rfl) T.b_int (by decide +kernel) (pa_cons (pe_op op_fdiv (pe_ix ix_list (pv 0) pe_int (fun _ _ => rfl)) pe_int) pa_nil)) (pv 1))))))), ?_⟩
    refine ⟨_, rfl, W, _, 2, .int c, rfl, rfl, .inl (.inl eW), rfl, _, _, rfl, rfl, _, rfl, W, _, 2, 2, rfl, rfl, eW, rfl, ?_⟩
    have k1 : Keep W H (upd H W (.lst [.int a, .int b, .int (c + 1)])) := keep_put (Keep.refl W H)
    have e1 : (upd H W (.lst [.int a, .int b, .int (c + 1)])) W = some (.lst [.int a, .int b, .int (c + 1)]) := upd_same
    have sh1 : upd H W (.lst (([.int a, .int b, .int c] : List V).set 2 (.int (c + 1)))) = upd H W (.lst [.int a, .int b, .int (c + 1)]) := rfl
    rw [sh1]
    generalize upd H W (.lst [V.int a, .int b, .int (c + 1)]) = H1 at *
    refine ⟨_, rfl, W, _, 1, .int b, rfl, rfl, .inl (.inl e1), rfl, .inl ⟨_, rfl, ?_⟩⟩
    refine ⟨_, rfl, _, rfl, .inl ⟨_, rfl, _, _, rfl, rfl, (by show (0 : Int) < 27011; decide), _, _, rfl, rfl, _, _, rfl, rfl, .inl (in64b b0 b1), _, rfl, W, _, 2, .int (c + 1), rfl, rfl, .inl (.inl e1), rfl, _, _, rfl, rfl, .inl (by decide), _, _, rfl, rfl, _, _, rfl, rfl, .inl ⟨_, rfl, _, _, rfl, rfl, (by show (0 : Int) < 2147483423; decide), _, rfl, W, _, 1, 1, rfl, rfl, e1, rfl, ?_⟩⟩⟩
    dsimp only
    generalize hb2 : (b * (b % 27011 + 8009) + 10211 * (c + 1) + 41) % 2147483423 = b2
    have b20 : 0 ≤ b2 := by
      rw [← hb2]
      exact Int.emod_nonneg _ (by decide)
    have b21 : b2 < 2147483423 := by
      rw [← hb2]
      exact Int.emod_lt_of_pos _ (by decide)
    have sh2 : upd H1 W (.lst (([.int a, .int b, .int (c + 1)] : List V).set 1 (.int b2))) = upd H1 W (.lst [.int a, .int b2, .int (c + 1)]) := rfl
    rw [sh2]
    have k2 : Keep W H (upd H1 W (.lst [.int a, .int b2, .int (c + 1)])) := keep_put k1
    have e2 : (upd H1 W (.lst [.int a, .int b2, .int (c + 1)])) W = some (.lst [.int a, .int b2, .int (c + 1)]) := upd_same
    generalize upd H1 W (.lst [V.int a, .int b2, .int (c + 1)]) = H2 at *
    refine ⟨_, rfl, W, _, 0, .int a, rfl, rfl, .inl (.inl e2), rfl, _, _, rfl, rfl, decide (0 < a), rfl, ?_⟩
    by_cases ha : 0 < a
    · rw [decide_eq_true ha]
      refine iteT ⟨_, rfl, W, _, 0, .int a, rfl, rfl, .inl (.inl e2), rfl, _, rfl, a, t, rfl, nopy t0 t1, fun p np => ?_⟩
      have npW : W ≠ p := ne_of_none e2 np
      refine ⟨p, _, rfl, .inl (.inl upd_same), rfl, _, _, rfl, ⟨_, rfl, W, _, 0, 0, rfl, rfl, (upd_ne npW).trans e2, rfl, ?_⟩⟩
      refine ⟨_, _, rfl, rfl, _, rfl, ?_⟩
      refine q _ _ (Int.emod_nonneg _ (by omega)) (Int.emod_lt_of_pos _ t0) (keep_put (keep_upd k2 np)) ⟨a / t, b2, c + 1, Int.ediv_nonneg a0 (by omega), b20, b21, ?_⟩
      rw [upd_same]
      rfl
    · rw [decide_eq_false ha]
      refine iteF ⟨_, rfl, W, _, 1, .int b2, rfl, rfl, .inl (.inl e2), rfl, _, _, rfl, rfl, ⟨by decide, by decide⟩, .inl ⟨_, rfl, _, rfl, _, _, rfl, rfl, t0, ?_⟩⟩
      exact q _ _ (Int.emod_nonneg _ (by omega)) (Int.emod_lt_of_pos _ t0) k2 ⟨a, b2, c + 1, a0, b20, b21, e2⟩
end
end K68
/-! one of a menu, the share next to a count, the shares of counts -/
namespace K68
open PySem PySem.Spec PyProof.Rows L2
theorem ix_of {xs : List Int} {v : Int} (h0 : 0 ≤ v) (h1 : v < xs.length) : ∃ x ∈ xs, atI (xs.map V.int) v = some (.int x) := by
  obtain ⟨j, rfl⟩ : ∃ j : Nat, v = (j : Int) := ⟨v.toNat, by omega⟩
  have hj : j < xs.length := by omega
  exact ⟨xs[j], List.getElem_mem hj, atI_nat (by rw [List.getElem?_map, List.getElem?_eq_getElem hj]; rfl)⟩
section
variable {P : Program} {w : World} {K : PySem.W.Frag} {mg : Str → Option Value} {base : Heap} {C fi fe pp ps pt gp gs gt : Addr}
def spOf : Sp := fun vs H Q _ => ∃ (W m : Addr) (xs : List Int), vs = [.ref W, .ref m] ∧ m ≠ W ∧ H m = some (.lst (xs.map V.int)) ∧ 0 < xs.length ∧ xs.length ≤ 100 ∧ Wl H W ∧ ∀ H' x, x ∈ xs → Keep W H H' → Wl H' W → Q (.int x) H'
theorem c_of (T : Tx K mg C fi fe pp ps pt gp gs gt) : Cl P w K mg base 2 "_law_of" ["_law_well_here", "_law_menu"] spOf := by
  refine cl_of T.d__law_of sc__law_of bi__law_of (fun vs H Q E h => ?_) (fun f cdv A outer s H vs Q E hr h => ?_)
  · obtain ⟨W, m, xs, rfl, _⟩ := h
    rfl
  · obtain ⟨W, m, xs, rfl, hne, em, l0, l1, hW, q⟩ := h
    refine ⟨_, pss_one (ps_ret (pe_ix ix_list (pv 1) (pc (c_draw T) hr (by decide) (by rfl) (pa_cons (pv 0) (pa_cons (pe_callB call_len_seq (by rfl) T.b_len PySem.boot_len (pa_cons (pv 1) pa_nil)) pa_nil))) (fun _ _ => rfl))), ?_⟩
    have hl : (xs.map V.int).length = xs.length := List.length_map _
    refine ⟨_, rfl, _, rfl, _, rfl, m, _, rfl, .inl (.inl (.inl em)), W, _, rfl, by omega, ?_, hW, fun H' v v0 v1 k hW' => ?_⟩
    · have e : (100 : Int) < 2 ^ 200 := by decide
      omega
    · obtain ⟨x, hx, ex⟩ := ix_of (xs := xs) v0 (by omega)
      exact ⟨m, _, v, _, rfl, rfl, .inl (.inl (k _ _ hne em)), ex, q H' x hx k hW'⟩
def spNear : Sp := fun vs H Q _ => ∃ u c p : Int, vs = [.int u, .int c, .int p] ∧ 0 < u ∧ u ≤ 1000 ∧ 0 < p ∧ p < 2 ^ 200 ∧ Q (.int (near u c p)) H
theorem c_near (T : Tx K mg C fi fe pp ps pt gp gs gt) : Cl P w K mg base 1 "_law_near" ["_law_unit", "_law_one", "_law_people"] spNear := by
  refine cl_of T.d__law_near sc__law_near bi__law_near (fun vs H Q E h => ?_) (fun f cdv A outer s H vs Q E hr h => ?_)
  · obtain ⟨u, c, p, rfl, _⟩ := h
    rfl
  · obtain ⟨u, c, p, rfl, u0, u1, p0, p1, q⟩ := h
    refine ⟨_, pss_one (ps_ret (pe_op op_fdivW (pe_callTy call_int1 (by rfl) T.b_int (by decide +kernel) (pa_cons (pe_op op_add (pe_op op_mul (pe_op op_mul pe_int (pv 0)) (pv 1)) (pv 2)) pa_nil)) (pe_op op_mul pe_int (pv 2)))), ?_⟩
    refine ⟨_, rfl, _, _, rfl, rfl, .inl two64, _, rfl, _, _, rfl, rfl, .inl (in64 (by omega) (by omega)), _, rfl, _, _, rfl, rfl, .inl ⟨_, rfl, _, rfl, _, _, rfl, rfl, .inl two64, _, _, rfl, rfl, ?_, q⟩⟩
    refine wide_div (b := 201) (by omega) ?_ (by decide) (by decide)
    have : (2 : Nat) ^ 201 = 2 * 2 ^ 200 := by decide
    have h2 : ((2 ^ 200 : Nat) : Int) = 2 ^ 200 := by decide
    omega
def spSharesOf (K : PySem.W.Frag) : Sp := fun vs H Q _ => ∃ (u : Int) (t : Addr) (ns : List Int), vs = [.int u, .ref t] ∧ SqT K H t (ns.map V.int) ∧ ns.length ≤ 1000 ∧ 0 < u ∧ u ≤ 1000 ∧ 0 < ns.sum ∧ ns.sum < 2 ^ 200 ∧
  ∀ H' q, Same H H' → H q = none → H' q = some (.tup ((sharesOf u ns.sum ns).map V.int)) → Q (.ref q) H'
theorem c_shares_of (T : Tx K mg C fi fe pp ps pt gp gs gt) : Cl P w K mg base 2 "_law_shares_of" ["_law_unit", "_law_counts_here"] (spSharesOf K) := by
  refine cl_of T.d__law_shares_of sc__law_shares_of bi__law_shares_of (fun vs H Q E h => ?_) (fun f cdv A outer s H vs Q E hr h => ?_)
  · obtain ⟨u, t, ns, rfl, _⟩ := h
    rfl
  · obtain ⟨u, t, ns, rfl, hT, hl, u0, u1, p0, p1, q⟩ := h
    refine ⟨_, pss_cons (ps_set (i := 2) sc__law_shares_of.nd rfl (.inr rfl) (pe_callB (call_sumT rfl) (by rfl) T.b_sum (by decide +kernel) (pa_cons (pv 1) pa_nil)))
      (pss_one (ps_ret (pe_callTy call_tuple_of (by rfl) T.b_tuple (by decide +kernel) (pa_cons (pe_lc (own := [("_law_one", 3)]) (g := gName 3) (tt := tYes) (by rfl) sc__law_shares_of.nd (pi_tup (pv 1)) (blkOk_by (N := n__law_shares_of) (sc := defScope s__law_shares_of) (by decide +kernel))
          (fun _ _ _ _ _ => pg_name (i := 3) sc__law_shares_of.nd rfl (Or.inl rfl)) (fun _ _ _ _ _ => pts_nil) (fun _ _ _ _ _ => pc (c_near T) hr (by decide) (by rfl) (pa_cons (pv 0) (pa_cons (pv 3) (pa_cons (pv 2) pa_nil))))) pa_nil)))), ?_⟩
    refine ⟨_, rfl, t, ns, rfl, hT, ?_⟩
    refine ⟨_, rfl, t, rfl, ⟨_, hT⟩, fun D nD => ?_⟩
    refine lc_tup (K := K) (a := t) (xs := ns.map V.int) (fun i H' => Same H H' ∧ H' D = some (.lst ((ns.take i).map fun c => V.int (near u c ns.sum)))) ⟨same_upd nD, upd_same⟩ (fun i H' _ ⟨sm, _⟩ => same_tup sm hT) ?_ ?_
    · rintro i x H' hx ⟨sm, eD⟩
      obtain ⟨n, hn, rfl, hm⟩ := int_at hx
      have hi : i < ns.length := (List.getElem?_eq_some_iff.mp hn).1
      refine ⟨rfl, yes (iteT ?_)⟩
      refine ⟨_, rfl, _, rfl, _, rfl, u, n, ns.sum, rfl, u0, u1, p0, p1, _, eD, ?_, fun b o e => ?_, ?_⟩
      · rw [List.length_map, List.length_take]
        exact lt_line (m := 1000) (by omega) (by omega)
      · rw [upd_ne (ne_of_none e nD)]
        exact sm b o e
      · rw [upd_same, take_succ_map _ hn]
    · rintro H' ⟨sm, eD⟩
      rw [List.length_map, List.take_length] at eD
      refine ⟨D, _, rfl, .inl ⟨.inl (.inl eD), fun q2 nq => ?_⟩⟩
      refine q _ q2 (sm.trans (same_upd nq)) (sm.free nq) ?_
      rw [upd_same]
      unfold sharesOf
      rw [List.map_map]
      rfl
end
end K68
/-! all tuples of counts -/
namespace K68
open PySem PySem.Spec PyProof.Rows L2
/-- the rows that stand as tuples in a list at l -/
structure RowsAt (H : Hp) (l : Addr) (rows : List (List Int)) : Prop where
  ex : ∃ as : List Addr, H l = some (.lst (as.map V.ref)) ∧ as.length = rows.length ∧ ∀ (i : Nat) (a : Addr) (r : List Int), as[i]? = some a → rows[i]? = some r → H a = some (.tup (r.map V.int))
theorem RowsAt.same {H H' : Hp} {l : Addr} {rows : List (List Int)} (h : RowsAt H l rows) (s : Same H H') : RowsAt H' l rows := by
  obtain ⟨as, e, hl, hp⟩ := h.ex
  exact ⟨as, s _ _ e, hl, fun i a r h1 h2 => s _ _ (hp i a r h1 h2)⟩
theorem RowsAt.nil {H : Hp} {l : Addr} (h : H l = some (.lst [])) : RowsAt H l [] := ⟨[], h, rfl, fun i a r h1 => by simp at h1⟩
/-- one row more at the end of the list at L; all else stands -/
theorem RowsAt.app {H : Hp} {L a : Addr} {rows : List (List Int)} {as : List Addr} {r : List Int} (e : H L = some (.lst (as.map V.ref))) (hl : as.length = rows.length)
    (hp : ∀ (i : Nat) (a : Addr) (r : List Int), as[i]? = some a → rows[i]? = some r → H a = some (.tup (r.map V.int))) (ha : H a = some (.tup (r.map V.int))) :
    RowsAt (upd H L (.lst (as.map V.ref ++ [.ref a]))) L (rows ++ [r]) := by
  have neL : ∀ {b : Addr} {t : List V}, H b = some (.tup t) → b ≠ L := fun {b t} q z => by
    rw [z, e] at q
    cases q
  refine ⟨as ++ [a], ?_, by rw [List.length_append, List.length_append, hl]; rfl, fun i b s h1 h2 => ?_⟩
  · rw [upd_same, List.map_append]
    rfl
  · by_cases hi : i < as.length
    · rw [List.getElem?_append_left hi] at h1
      rw [List.getElem?_append_left (by omega)] at h2
      have q := hp i b s h1 h2
      rw [upd_ne (neL q)]
      exact q
    · rw [List.getElem?_append_right (by omega)] at h1
      rw [List.getElem?_append_right (by omega)] at h2
      have h0 : i - as.length = 0 := by
        have := (List.getElem?_eq_some_iff.mp h1).1
        simp at this
        omega
      have h0' : i - rows.length = 0 := by omega
      rw [h0] at h1
      rw [h0'] at h2
      obtain rfl := Option.some.inj h1
      obtain rfl := Option.some.inj h2
      rw [upd_ne (neL ha)]
      exact ha
theorem exts_len {n : Nat} {p : Int} {own : List Int} (h : Own n p own) : (exts p own).length = (p - own.sum + 1).toNat := by
  unfold exts
  rw [List.length_map, List.length_range]
theorem exts_take (p : Int) (own : List Int) {i : Nat} (h : i < (p - own.sum + 1).toNat) : (exts p own).take (i + 1) = (exts p own).take i ++ [own ++ [(i : Int)]] := by
  unfold exts
  rw [List.take_add_one, List.getElem?_map, List.getElem?_range h]
  rfl
theorem flat_take {α β : Type} (f : α → List β) {xs : List α} {j : Nat} {x : α} (h : xs[j]? = some x) : (xs.take (j + 1)).flatMap f = (xs.take j).flatMap f ++ f x := by
  rw [List.take_add_one, h, List.flatMap_append]
  simp
theorem flat_le {α β : Type} (f : α → List β) (xs : List α) (j : Nat) : ((xs.take j).flatMap f).length ≤ (xs.flatMap f).length := by
  have e : xs.flatMap f = (xs.take j).flatMap f ++ (xs.drop j).flatMap f := by
    rw [← List.flatMap_append, List.take_append_drop]
  rw [e, List.length_append]
  omega
section
variable {P : Program} {w : World} {K : PySem.W.Frag} {mg : Str → Option Value} {base : Heap} {C fi fe pp ps pt gp gs gt : Addr}
def spTried : Sp := fun vs H Q _ => ∃ (m : Nat) (p : Int), vs = [.int ((m : Int) + 1), .int p] ∧ m ≤ 100 ∧ 0 ≤ p ∧ p ≤ 1000 ∧ (∀ t, t ≤ m → (level p t).length ≤ 10000) ∧ ∀ H' l, Same H H' → H l = none → RowsAt H' l (tried m p) → Q (.ref l) H'
theorem in62 {i : Int} (h0 : -10000 ≤ i) (h1 : i ≤ 10000) : -(2 ^ 62) ≤ i ∧ i < 2 ^ 62 := by
  have e : (2 : Int) ^ 62 = 4611686018427387904 := by decide
  rw [e]
  omega
theorem c_tried (T : Tx K mg C fi fe pp ps pt gp gs gt) : Cl P w K mg base 1 "_law_tried" ["_law_many", "_law_people"] spTried := by
  refine cl_of T.d__law_tried sc__law_tried bi__law_tried (fun vs H Q E h => ?_) (fun f cdv A outer s H vs Q E hr h => ?_)
  · obtain ⟨m, p, rfl, _⟩ := h
    rfl
  · obtain ⟨m, p, rfl, hm, p0, p1, hB, q⟩ := h
    refine ⟨_, pss_cons (ps_set (i := 2) sc__law_tried.nd rfl (.inl rfl) (pe_lst (pa_cons (pe_tup pa_nil) pa_nil)))
      (pss_cons (ps_for PassesOwn.never rfl (pi_range1 (by rfl) T.b_range (pa_cons (pe_op op_sub (pv 0) pe_int) pa_nil)) (pg_name (i := 3) sc__law_tried.nd rfl (.inl rfl))
        (pss_cons (ps_set (i := 4) sc__law_tried.nd rfl (.inl rfl) (pe_lst pa_nil))
        (pss_cons (ps_for PassesOwn.never rfl (pi_list (pv 2)) (pg_name (i := 5) sc__law_tried.nd rfl (.inl rfl))
          (pss_one (ps_for PassesOwn.never rfl (pi_range1 (by rfl) T.b_range (pa_cons (pe_op op_add (pe_op op_sub (pv 1) (pe_callB (call_sumT rfl) (by rfl) T.b_sum (by decide +kernel) (pa_cons (pv 5) pa_nil))) pe_int) pa_nil)) (pg_name (i := 6) sc__law_tried.nd rfl (.inl rfl))
            (pss_one (ps_expr (pe_bm PySem.F.plainAttrs_list PySem.F.slot_list_append PySem.F.type_list_append mt_append (pv 4) (pa_cons (pe_op op_catA (pv 5) (pe_tup (pa_cons (pv 6) pa_nil))) pa_nil)))))))
        (pss_one (ps_set (i := 2) sc__law_tried.nd rfl (.inl rfl) (pv 4))))))
      (pss_one (ps_ret (pe_lc (own := [("_law_own", 5)]) (g := gName 5) (tt := tYes) (by rfl) sc__law_tried.nd (pi_list (pv 2)) (blkOk_by (N := n__law_tried) (sc := defScope s__law_tried) (by decide +kernel))
          (fun _ _ _ _ _ => pg_name (i := 5) sc__law_tried.nd rfl (Or.inl rfl)) (fun _ _ _ _ _ => pts_nil)
          (fun _ _ _ _ _ => pe_op (r := rCatA K) op_catA (pv 5) (pe_tup (pa_cons (pe_op op_sub (pv 1) (pe_callB (r := rSumT K) (call_sumT rfl) (by rfl) T.b_sum (by decide +kernel) (pa_cons (pv 5) pa_nil))) pa_nil))))))), ?_⟩
    refine ⟨(by show 0 ≤ sizeLine; exact Nat.zero_le _), fun e0 ne0 => ?_⟩
    have s0 := same_upd (o := .tup []) ne0
    have ee0 : (upd H e0 (.tup [])) e0 = some (.tup []) := upd_same
    generalize upd H e0 (.tup []) = H0 at *
    refine ⟨(by show 1 ≤ sizeLine; decide), fun l0 nl0 => ?_⟩
    have s1 := same_upd (o := .lst [V.ref e0]) nl0
    have el0 : (upd H0 l0 (.lst [V.ref e0])) l0 = some (.lst [V.ref e0]) := upd_same
    generalize upd H0 l0 (.lst [V.ref e0]) = H1 at *
    have hR0 : RowsAt H1 l0 (level p 0) := ⟨[e0], el0, rfl, fun i a r h1 h2 => by
      have hi : i = 0 := by
        have := (List.getElem?_eq_some_iff.mp h1).1
        simp at this
        omega
      subst hi
      obtain rfl := Option.some.inj h1
      obtain rfl := Option.some.inj h2
      exact s1 _ _ ee0⟩
    have s01 : Same H H1 := s0.trans s1
    refine ⟨_, rfl, _, _, rfl, rfl, _, rfl, (in62 (by omega) (by omega)).1, (in62 (by omega) (by omega)).2, ?_⟩
    have hmt : (((m : Int) + 1) - 1).toNat = m := by omega
    refine for_range (lo := 0) (n := (((m : Int) + 1) - 1).toNat) (fun t σ H' => ∃ (l : Addr) (y3 y4 y5 y6 : Option V), σ = [some (.int ((m : Int) + 1)), some (.int p), some (.ref l), y3, y4, y5, y6] ∧ Same H H' ∧ H l = none ∧ RowsAt H' l (level p t)) ⟨l0, none, none, none, none, rfl, s01, s0.free nl0, hR0⟩ ?_ ?_
    · rintro t σ H2 ht ⟨l, y3, y4, y5, y6, rfl, s2, nl, hR⟩
      rw [hmt] at ht
      obtain ⟨as, el, hal, hap⟩ := hR.ex
      refine ⟨Nat.zero_le _, fun L nL => ?_⟩
      have s3 := same_upd (o := .lst []) nL
      have eL : (upd H2 L (.lst [])) L = some (.lst []) := upd_same
      generalize upd H2 L (.lst []) = H3 at *
      refine ⟨_, rfl, l, rfl, ⟨_, .inl (.inl (s3 _ _ el))⟩, ?_⟩
      refine for_list (K := K) (a := l) (xs := as.map V.ref) (fun j σ H' => ∃ (y3 y5 y6 : Option V), σ = [some (.int ((m : Int) + 1)), some (.int p), some (.ref l), y3, some (.ref L), y5, y6] ∧ Same H2 H' ∧ RowsAt H' L (((level p t).take j).flatMap (exts p)))
        ⟨_, _, _, rfl, s3, RowsAt.nil eL⟩ (fun j σ H' _ ⟨_, _, _, _, sm, _⟩ => .inl (.inl (sm _ _ el))) ?_ ?_
      · rintro j x σ H4 hx ⟨y3, y5, y6, rfl, s4, hR4⟩
        obtain ⟨a, ha, rfl⟩ := ref_at hx
        have hj : j < (level p t).length := by
          have := (List.getElem?_eq_some_iff.mp ha).1
          omega
        have ho : (level p t)[j]? = some ((level p t)[j]) := List.getElem?_eq_getElem hj
        have hT2 := hap j a _ ha ho
        have hown := own_level p0 t _ (List.getElem_mem hj)
        have hfl := flat_take (exts p) ho
        have hlen1 : (((level p t).take j).flatMap (exts p)).length + (exts p (level p t)[j]).length ≤ 10000 := by
          have h1 := flat_le (exts p) (level p t) (j + 1)
          rw [hfl, List.length_append] at h1
          exact Nat.le_trans h1 (hB (t + 1) (by omega))
        generalize (level p t)[j] = own at *
        generalize hpre : ((level p t).take j).flatMap (exts p) = pre at *
        have hsum := sum_nn hown.nn
        have hle := hown.le
        refine ⟨_, rfl, _, rfl, a, own, rfl, .inl (.inl (s4 _ _ hT2)), _, _, rfl, rfl, _, _, rfl, rfl, _, rfl, (in62 (by omega) (by omega)).1, (in62 (by omega) (by omega)).2, ?_⟩
        refine for_range (lo := 0) (n := (p - own.sum + 1).toNat) (fun i σ H' => ∃ (y3 y6 : Option V), σ = [some (.int ((m : Int) + 1)), some (.int p), some (.ref l), y3, some (.ref L), some (.ref a), y6] ∧ Same H2 H' ∧ RowsAt H' L (pre ++ (exts p own).take i)) ⟨_, _, rfl, s4, by rw [List.take_zero, List.append_nil]; exact hR4⟩ ?_ ?_
        · rintro i σ H5 hi ⟨y3, y6, rfl, s5, hR5⟩
          obtain ⟨bs, eL5, hbl, hbp⟩ := hR5.ex
          have hT5 := s5 _ _ hT2
          have hlb : bs.length < sizeLine := by
            rw [hbl, List.length_append, List.length_take]
            exact lt_line (m := 10000) (by omega) (by omega)
          refine ⟨_, rfl, .inl ⟨rfl, _, .inl (.inl eL5)⟩, _, rfl, _, rfl, (by show 1 ≤ sizeLine; decide), fun u nu => ?_⟩
          have su := same_upd (o := .tup [V.int (0 + (i : Int))]) nu
          have eu : (upd H5 u (.tup [V.int (0 + (i : Int))])) u = some (.tup [V.int (0 + (i : Int))]) := upd_same
          generalize upd H5 u (.tup [V.int (0 + (i : Int))]) = H6 at *
          have fin : ∀ (H7 : Hp) (r : Addr), Same H6 H7 → H7 r = some (.tup ((own ++ [(i : Int)]).map V.int)) → ∃ (z3 z6 : Option V), [some (.int ((m : Int) + 1)), some (.int p), some (.ref l), y3, some (.ref L), some (.ref a), some (V.int (0 + (i : Int)))] = [some (.int ((m : Int) + 1)), some (.int p), some (.ref l), z3, some (.ref L), some (.ref a), z6] ∧ Same H2 (upd H7 L (.lst (bs.map V.ref ++ [.ref r]))) ∧ RowsAt (upd H7 L (.lst (bs.map V.ref ++ [.ref r]))) L (pre ++ (exts p own).take (i + 1)) := by
            intro H7 r s7 er
            have eL7 := s7 _ _ (su _ _ eL5)
            refine ⟨y3, _, rfl, fun b o e => ?_, ?_⟩
            · rw [upd_ne (ne_of_none e nL)]
              exact s7 _ _ (su _ _ (s5 _ _ e))
            · rw [exts_take p own hi, ← List.append_assoc]
              exact RowsAt.app eL7 hbl (fun i a r h1 h2 => s7 _ _ (su _ _ (hbp i a r h1 h2))) er
          refine ⟨a, u, own.map V.int, _, rfl, rfl, .inl (.inl (su _ _ hT5)), .inl (.inl eu), ?_, fun h0 => ?_, fun _ h0 => ?_, fun h0 _ v nv => ?_⟩
          · rw [List.length_map, hown.len]
            exact Nat.le_of_lt (lt_line (m := 200) (by show t + 1 ≤ 200; omega) (by omega))
          · have h0' : own = [] := List.map_eq_nil_iff.mp h0
            refine ⟨L, _, _, rfl, rfl, su _ _ eL5, by rw [List.length_map]; exact hlb, ?_⟩
            exact fin H6 u (Same.refl H6) (by rw [eu, h0', Int.zero_add]; rfl)
          · cases h0
          · have sv := same_upd (o := .tup (own.map V.int ++ [V.int (0 + (i : Int))])) nv
            refine ⟨L, _, _, rfl, rfl, sv _ _ (su _ _ eL5), by rw [List.length_map]; exact hlb, ?_⟩
            exact fin _ v sv (by rw [upd_same, Int.zero_add, List.map_append]; rfl)
        · rintro σ H5 ⟨y3, y6, rfl, s5, hR5⟩
          refine ⟨_, _, _, rfl, s5, ?_⟩
          rw [hfl]
          have e : (exts p own).take (p - own.sum + 1).toNat = exts p own := by
            rw [← exts_len hown, List.take_length]
          rw [e] at hR5
          exact hR5
      · rintro σ H4 ⟨y3, y5, y6, rfl, s4, hR4⟩
        refine ⟨_, rfl, L, _, _, _, _, rfl, s2.trans s4, s2.free nL, ?_⟩
        rw [List.length_map, hal, List.take_length] at hR4
        exact hR4
    · rintro σ H2 ⟨l, y3, y4, y5, y6, rfl, s2, nl, hR⟩
      rw [hmt] at hR
      obtain ⟨as, el, hal, hap⟩ := hR.ex
      refine ⟨_, rfl, l, rfl, ⟨_, .inl (.inl el)⟩, fun D nD => ?_⟩
      refine lc_list (K := K) (a := l) (xs := as.map V.ref) (fun j H' => Same H2 H' ∧ RowsAt H' D (((level p m).take j).map (last1 p))) ⟨same_upd nD, RowsAt.nil upd_same⟩ (fun j H' _ ⟨sm, _⟩ => .inl (.inl (sm _ _ el))) ?_ ?_
      · rintro j x H4 hx ⟨s4, hR4⟩
        obtain ⟨a, ha, rfl⟩ := ref_at hx
        have hj : j < (level p m).length := by
          have := (List.getElem?_eq_some_iff.mp ha).1
          omega
        have ho : (level p m)[j]? = some ((level p m)[j]) := List.getElem?_eq_getElem hj
        have hT2 := hap j a _ ha ho
        have hown := own_level p0 m _ (List.getElem_mem hj)
        have hmp := take_succ_map (last1 p) ho
        have hjB := hB m (Nat.le_refl _)
        generalize (level p m)[j] = own at *
        obtain ⟨bs, eD, hbl, hbp⟩ := hR4.ex
        have hT4 := s4 _ _ hT2
        have hlb : bs.length < sizeLine := by
          rw [hbl, List.length_map, List.length_take]
          exact lt_line (m := 10000) (by omega) (by omega)
        refine ⟨rfl, yes (iteT ?_)⟩
        refine ⟨_, rfl, _, rfl, _, rfl, a, own, rfl, .inl (.inl hT4), _, _, rfl, rfl, (by show 1 ≤ sizeLine; decide), fun u nu => ?_⟩
        have su := same_upd (o := .tup [V.int (p - own.sum)]) nu
        have eu : (upd H4 u (.tup [V.int (p - own.sum)])) u = some (.tup [V.int (p - own.sum)]) := upd_same
        generalize upd H4 u (.tup [V.int (p - own.sum)]) = H6 at *
        have fin : ∀ (H7 : Hp) (r : Addr), Same H6 H7 → H7 r = some (.tup ((last1 p own).map V.int)) → Same H2 (upd H7 D (.lst (bs.map V.ref ++ [.ref r]))) ∧ RowsAt (upd H7 D (.lst (bs.map V.ref ++ [.ref r]))) D (((level p m).take (j + 1)).map (last1 p)) := by
          intro H7 r s7 er
          have eD7 := s7 _ _ (su _ _ eD)
          refine ⟨fun b o e => ?_, ?_⟩
          · rw [upd_ne (ne_of_none e nD)]
            exact s7 _ _ (su _ _ (s4 _ _ e))
          · rw [hmp]
            exact RowsAt.app eD7 hbl (fun i a r h1 h2 => s7 _ _ (su _ _ (hbp i a r h1 h2))) er
        refine ⟨a, u, own.map V.int, _, rfl, rfl, .inl (.inl (su _ _ hT4)), .inl (.inl eu), ?_, fun h0 => ?_, fun _ h0 => ?_, fun h0 _ v nv => ?_⟩
        · rw [List.length_map, hown.len]
          exact Nat.le_of_lt (lt_line (m := 200) (by show m + 1 ≤ 200; omega) (by omega))
        · have h0' : own = [] := List.map_eq_nil_iff.mp h0
          refine ⟨_, su _ _ eD, by rw [List.length_map]; exact hlb, ?_⟩
          exact fin H6 u (Same.refl H6) (by rw [eu, h0']; rfl)
        · cases h0
        · have sv := same_upd (o := .tup (own.map V.int ++ [V.int (p - own.sum)])) nv
          refine ⟨_, sv _ _ (su _ _ eD), by rw [List.length_map]; exact hlb, ?_⟩
          exact fin _ v sv (by rw [upd_same]; unfold last1; rw [List.map_append]; rfl)
      · rintro H4 ⟨s4, hR4⟩
        rw [List.length_map, hal, List.take_length] at hR4
        exact q H4 D (s2.trans s4) (s2.free nD) hR4
end
end K68
/-! counts dealt out, shares drawn -/
namespace K68
open PySem PySem.Spec PyProof.Rows L2
theorem keep_new {W F : Addr} {H H' : Hp} {o : HO} (k : Keep W H H') (n : H F = none) : Keep W H (upd H' F o) := fun b u nb e => by
  rw [upd_ne (ne_of_none e n)]
  exact k b u nb e
theorem wl_new {W F : Addr} {H : Hp} {o : HO} (h : Wl H W) (n : W ≠ F) : Wl (upd H F o) W := by
  obtain ⟨a, b, c, ha, hb, hb2, e⟩ := h
  exact ⟨a, b, c, ha, hb, hb2, by rw [upd_ne n]; exact e⟩
theorem wl_ne {W F : Addr} {H : Hp} (h : Wl H W) (n : H F = none) : W ≠ F := by
  obtain ⟨a, b, c, ha, hb, hb2, e⟩ := h
  exact ne_of_none e n
theorem sum_app (xs ys : List Int) : (xs ++ ys).sum = xs.sum + ys.sum := by
  induction xs with
  | nil => simp
  | cons x r ih =>
    rw [List.cons_append, List.sum_cons, List.sum_cons, ih]
    omega
theorem rot_sum (ds : List Int) (k : Nat) : (ds.drop k ++ ds.take k).sum = ds.sum := by
  rw [sum_app]
  have h := sum_app (ds.take k) (ds.drop k)
  rw [List.take_append_drop] at h
  omega
theorem cut_upto (ds : List Int) (k : Nat) : cutV (ds.map V.int) none (some (k : Int)) = (ds.take k).map V.int := by
  unfold cutV
  rw [HT.sIx_none, HT.sIx_nat, List.drop_zero, Nat.sub_zero, List.length_map, ← List.map_take]
  congr 1
  by_cases h : k ≤ ds.length
  · rw [Nat.min_eq_left h]
  · rw [Nat.min_eq_right (by omega), List.take_length, List.take_of_length_le (by omega)]
section
variable {P : Program} {w : World} {K : PySem.W.Frag} {mg : Str → Option Value} {base : Heap} {C fi fe pp ps pt gp gs gt : Addr}
theorem in200 {i : Int} (h : i ≤ 10000) : i < 2 ^ 200 := by
  have e : (10000 : Int) < 2 ^ 200 := by decide
  omega
def spDealt : Sp := fun vs H Q _ => ∃ (W : Addr) (m : Nat) (p : Int), vs = [.ref W, .int ((m : Int) + 1), .int p] ∧ m ≤ 100 ∧ 0 ≤ p ∧ p ≤ 5000 ∧ Wl H W ∧
  ∀ (H' : Hp) (t : Addr) (cs : List Int), cs.length = m + 1 → (∀ x ∈ cs, 0 ≤ x) → cs.sum = p → Keep W H H' → Wl H' W → H t = none → H' t = some (.tup (cs.map V.int)) → Q (.ref t) H'
theorem c_dealt (T : Tx K mg C fi fe pp ps pt gp gs gt) : Cl P w K mg base 2 "_law_dealt" ["_law_well_here", "_law_many", "_law_people"] spDealt := by
  refine cl_of T.d__law_dealt sc__law_dealt bi__law_dealt (fun vs H Q E h => ?_) (fun f cdv A outer s H vs Q E hr h => ?_)
  · obtain ⟨W, m, p, rfl, _⟩ := h
    rfl
  · obtain ⟨W, m, p, rfl, hm, p0, p1, hW, q⟩ := h
    refine ⟨_, pss_cons (ps_par (i := 3) (j := 4) (by rfl) sc__law_dealt.nd rfl rfl (by decide) rfl rfl (pa_cons (pe_lst pa_nil) (pa_cons (pv 2) pa_nil)) (by rfl))
      (pss_cons (ps_for PassesOwn.never rfl (pi_range1 (by rfl) T.b_range (pa_cons (pe_op op_sub (pv 1) pe_int) pa_nil)) (pg_name (i := 5) sc__law_dealt.nd rfl (.inl rfl))
        (pss_cons (ps_expr (pe_bm PySem.F.plainAttrs_list PySem.F.slot_list_append PySem.F.type_list_append mt_append (pv 3) (pa_cons (pc (c_draw T) hr (by decide) (by rfl) (pa_cons (pv 0) (pa_cons (pe_op op_add (pv 4) pe_int) pa_nil))) pa_nil)))
        (pss_one (ps_set (i := 4) sc__law_dealt.nd rfl (.inl rfl) (pe_op op_sub (pv 4) (pe_ix ix_list (pv 3) (pe_un un_neg pe_int) (fun _ _ => rfl)))))))
      (pss_cons (ps_expr (pe_bm PySem.F.plainAttrs_list PySem.F.slot_list_append PySem.F.type_list_append mt_append (pv 3) (pa_cons (pv 4) pa_nil)))
      (pss_cons (ps_set (i := 6) sc__law_dealt.nd rfl (.inl rfl) (pc (c_draw T) hr (by decide) (by rfl) (pa_cons (pv 0) (pa_cons (pv 1) pa_nil))))
      (pss_one (ps_ret (pe_callTy call_tuple_of (by rfl) T.b_tuple (by decide +kernel) (pa_cons (pe_op op_cat (pe_slice sl_list (pv 3) (po_some (pv 6)) po_none) (pe_slice sl_list (pv 3) po_none (po_some (pv 6)))) pa_nil))))))), ?_⟩
    refine ⟨Nat.zero_le _, fun F nF => ⟨_, rfl, _, _, rfl, ?_⟩⟩
    have neF : W ≠ F := wl_ne hW nF
    refine ⟨_, rfl, _, _, rfl, rfl, _, rfl, (in62 (by omega) (by omega)).1, (in62 (by omega) (by omega)).2, ?_⟩
    have hmt : (((m : Int) + 1) - 1).toNat = m := by omega
    refine for_range (lo := 0) (n := (((m : Int) + 1) - 1).toNat) (fun i σ H' => ∃ (r : Int) (ds : List Int) (y5 y6 : Option V), σ = [some (.ref W), some (.int ((m : Int) + 1)), some (.int p), some (.ref F), some (.int r), y5, y6] ∧
        Keep W H H' ∧ Wl H' W ∧ H' F = some (.lst (ds.map V.int)) ∧ ds.length = i ∧ (∀ x ∈ ds, 0 ≤ x) ∧ 0 ≤ r ∧ ds.sum + r = p)
      ⟨p, [], none, none, rfl, keep_new (Keep.refl W H) nF, wl_new hW neF, upd_same, rfl, by simp, p0, by simp⟩ ?_ ?_
    · rintro i σ H1 hi ⟨r, ds, y5, y6, rfl, k1, w1, eF, hdl, hd0, r0, hsum⟩
      have hds := sum_nn hd0
      refine ⟨_, rfl, .inl ⟨rfl, _, .inl (.inl eF)⟩, _, rfl, _, rfl, _, _, rfl, rfl, W, _, rfl, by omega, in200 (by omega), w1, fun H2 v v0 v1 k2 w2 => ?_⟩
      have eF2 := k2 _ _ neF.symm eF
      refine ⟨F, _, _, rfl, rfl, eF2, ?_, ?_⟩
      · rw [List.length_map, hdl]
        exact lt_line (m := 200) (by omega) (by omega)
      · refine ⟨_, rfl, _, rfl, _, rfl, F, _, -1, .int v, rfl, rfl, .inl (.inl upd_same), atI_last _ _, _, _, rfl, rfl, ?_⟩
        refine ⟨r - v, ds ++ [v], _, _, rfl, keep_new (k1.trans k2) nF, wl_new w2 neF, ?_, ?_, fun x hx => ?_, by omega, ?_⟩
        · rw [upd_same, List.map_append]
          rfl
        · rw [List.length_append, hdl]
          rfl
        · rcases List.mem_append.mp hx with z | z
          · exact hd0 x z
          · rw [List.mem_singleton] at z
            omega
        · rw [sum_app1]
          omega
    · rintro σ H1 ⟨r, ds, y5, y6, rfl, k1, w1, eF, hdl, hd0, r0, hsum⟩
      rw [hmt] at hdl
      refine ⟨_, rfl, .inl ⟨rfl, _, .inl (.inl eF)⟩, _, rfl, F, _, _, rfl, rfl, eF, ?_, ?_⟩
      · rw [List.length_map, hdl]
        exact lt_line (m := 200) (by omega) (by omega)
      · have eF1 : (upd H1 F (.lst (ds.map V.int ++ [V.int r]))) F = some (.lst ((ds ++ [r]).map V.int)) := by
          rw [upd_same, List.map_append]
          rfl
        have kk : Keep W H (upd H1 F (.lst (ds.map V.int ++ [V.int r]))) := keep_new k1 nF
        have ww : Wl (upd H1 F (.lst (ds.map V.int ++ [V.int r]))) W := wl_new w1 neF
        generalize upd H1 F (.lst (ds.map V.int ++ [V.int r])) = H2 at *
        have hE0 : ∀ x ∈ ds ++ [r], 0 ≤ x := fun x hx => by
          rcases List.mem_append.mp hx with z | z
          · exact hd0 x z
          · rw [List.mem_singleton] at z
            omega
        have hEs : (ds ++ [r]).sum = p := by
          rw [sum_app1]
          exact hsum
        have hEl : (ds ++ [r]).length = m + 1 := by
          rw [List.length_append, hdl]
          rfl
        generalize ds ++ [r] = es at *
        refine ⟨_, rfl, _, rfl, W, _, rfl, by omega, in200 (by omega), ww, fun H3 v v0 v1 k3 w3 => ?_⟩
        obtain ⟨j, rfl⟩ : ∃ j : Nat, v = (j : Int) := ⟨v.toNat, by omega⟩
        have eF3 := k3 _ _ neF.symm eF1
        refine ⟨_, rfl, _, rfl, _, rfl, F, _, rfl, .inl (.inl eF3), fun a na => ?_⟩
        have sa := same_upd (o := .lst (cutV (es.map V.int) (some (j : Int)) none)) na
        have ea : (upd H3 a (.lst (cutV (es.map V.int) (some (j : Int)) none))) a = some (.lst ((es.drop j).map V.int)) := by
          rw [upd_same, cut_from, List.map_drop]
        generalize upd H3 a (.lst (cutV (es.map V.int) (some (j : Int)) none)) = H4 at *
        refine ⟨_, rfl, _, rfl, _, rfl, F, _, rfl, .inl (.inl (sa _ _ eF3)), fun b nb => ?_⟩
        have sb := same_upd (o := .lst (cutV (es.map V.int) none (some (j : Int)))) nb
        have eb : (upd H4 b (.lst (cutV (es.map V.int) none (some (j : Int))))) b = some (.lst ((es.take j).map V.int)) := by
          rw [upd_same, cut_upto]
        generalize upd H4 b (.lst (cutV (es.map V.int) none (some (j : Int)))) = H5 at *
        have ea5 := sb _ _ ea
        refine ⟨a, b, _, _, rfl, rfl, ea5, eb, ?_, fun c nc => ?_⟩
        · rw [List.length_map, List.length_map, List.length_drop, List.length_take]
          exact Nat.le_of_lt (lt_line (m := 400) (by omega) (by omega))
        · have sc := same_upd (o := .lst ((es.drop j).map V.int ++ (es.take j).map V.int)) nc
          have ec : (upd H5 c (.lst ((es.drop j).map V.int ++ (es.take j).map V.int))) c = some (.lst ((es.drop j ++ es.take j).map V.int)) := by
            rw [upd_same, List.map_append]
          generalize upd H5 c (.lst ((es.drop j).map V.int ++ (es.take j).map V.int)) = H6 at *
          have s36 := sa.trans (sb.trans sc)
          refine ⟨c, _, rfl, .inl ⟨.inl (.inl ec), fun t nt => ?_⟩⟩
          have s37 := s36.trans (same_upd (o := .tup ((es.drop j ++ es.take j).map V.int)) nt)
          have kall : Keep W H (upd H6 t (.tup ((es.drop j ++ es.take j).map V.int))) := (kk.trans k3).trans (Keep.of_same s37)
          refine q _ t (es.drop j ++ es.take j) ?_ (fun x hx => ?_) ?_ kall (w3.same s37) ?_ upd_same
          · rw [List.length_append, List.length_drop, List.length_take]
            omega
          · rcases List.mem_append.mp hx with z | z
            · exact hE0 x (List.mem_of_mem_drop z)
            · exact hE0 x (List.mem_of_mem_take z)
          · rw [rot_sum]
            exact hEs
          · cases e : H t with
            | none => rfl
            | some o =>
              by_cases hw : t = W
              · subst hw
                obtain ⟨_, _, _, _, _, _, e7⟩ := w3.same s36
                rw [nt] at e7
                cases e7
              · have := s36 _ _ (k3 _ _ hw (kk _ _ hw e))
                rw [nt] at this
                cases this
end
end K68
/-! shares drawn -/
namespace K68
open PySem PySem.Spec PyProof.Rows L2
theorem wl_free {W t : Addr} {H H' : Hp} (k : Keep W H H') (w : Wl H' W) (n : H' t = none) : H t = none := by
  cases e : H t with
  | none => rfl
  | some o =>
    by_cases hw : t = W
    · subst hw
      obtain ⟨_, _, _, _, _, _, e7⟩ := w
      rw [n] at e7
      cases e7
    · have := k _ _ hw e
      rw [n] at this
      cases this
theorem set_at {S : List Int} {j : Nat} {v : Int} : (S.map V.int).set j (V.int v) = (S.set j v).map V.int := by rw [List.map_set]
theorem set_ok {S : List Int} {u v : Int} {j : Nat} (h : ∀ x ∈ S, 0 ≤ x ∧ x ≤ u) (h0 : 0 ≤ v) (h1 : v ≤ u) : ∀ x ∈ S.set j v, 0 ≤ x ∧ x ≤ u := fun x hx => by
  rcases List.mem_or_eq_of_mem_set hx with z | z
  · exact h x z
  · omega
theorem ixN_ok {n j : Nat} (h : j < n) : ixN n (j : Int) = some j := by
  unfold ixN
  rw [if_pos (by omega), if_pos (by omega)]
  simp
section
variable {P : Program} {w : World} {K : PySem.W.Frag} {mg : Str → Option Value} {base : Heap} {C fi fe pp ps pt gp gs gt : Addr}
def spSharesD : Sp := fun vs H Q _ => ∃ (W : Addr) (u : Int) (m : Nat) (p : Int), vs = [.ref W, .int u, .int ((m : Int) + 1), .int p] ∧ 1 ≤ m ∧ m ≤ 5 ∧ 10 ≤ u ∧ u ≤ 1000 ∧ 0 < p ∧ p ≤ 1000 ∧ Wl H W ∧
  ∀ (H' : Hp) (t : Addr) (S : List Int), S.length = m + 1 → (∀ x ∈ S, 0 ≤ x ∧ x ≤ u) → Keep W H H' → Wl H' W → H t = none → H' t = some (.tup (S.map V.int)) → Q (.ref t) H'
theorem c_sharesD (T : Tx K mg C fi fe pp ps pt gp gs gt) : Cl P w K mg base 3 "_law_shares" ["_law_well_here", "_law_unit", "_law_many", "_law_people"] spSharesD := by
  refine cl_of T.d__law_shares sc__law_shares bi__law_shares (fun vs H Q E h => ?_) (fun f cdv A outer s H vs Q E hr h => ?_)
  · obtain ⟨W, u, m, p, rfl, _⟩ := h
    rfl
  · obtain ⟨W, u, m, p, rfl, m1, m5, u0, u1, p0, p1, hW, q⟩ := h
    refine ⟨_, pss_cons (ps_par (i := 4) (j := 5) (by rfl) sc__law_shares.nd rfl rfl (by decide) rfl rfl (pa_cons (pc (c_draw T) hr (by decide) (by rfl) (pa_cons (pv 0) (pa_cons pe_int pa_nil))) (pa_cons (pc (c_draw T) hr (by decide) (by rfl) (pa_cons (pv 0) (pa_cons (pv 2) pa_nil))) pa_nil)) (by rfl))
      (pss_cons (ps_if (pt_cmpR op_eq (pv 4) pe_int (nomark _))
        (pss_cons (ps_set (i := 6) sc__law_shares.nd rfl (.inl rfl) (pe_callTy call_list_of (by rfl) T.b_list (by decide +kernel) (pa_cons (pc (c_dealt T) hr (by decide) (by rfl) (pa_cons (pv 0) (pa_cons (pv 2) (pa_cons (pe_op op_sub (pe_op op_add (pv 1) (pc (c_draw T) hr (by decide) (by rfl) (pa_cons (pv 0) (pa_cons pe_int pa_nil)))) pe_int) pa_nil)))) pa_nil)))
        (pss_one (ps_ret (pe_callTy call_tuple_of (by rfl) T.b_tuple (by decide +kernel) (pa_cons (pe_lc (own := [("_law_share", 7)]) (g := gName 7) (tt := tYes) (by rfl) sc__law_shares.nd (pi_list (pv 6)) (blkOk_by (N := n__law_shares) (sc := defScope s__law_shares) (by decide +kernel))
          (fun _ _ _ _ _ => pg_name (i := 7) sc__law_shares.nd rfl (Or.inl rfl)) (fun _ _ _ _ _ => pts_nil) (fun _ _ _ _ _ => pe_callB (call_min2 rfl) (by rfl) T.b_min (by decide +kernel) (pa_cons (pv 1) (pa_cons (pv 7) pa_nil)))) pa_nil))))) pss_nil)
      (pss_cons (ps_set (i := 6) sc__law_shares.nd rfl (.inl rfl) (pe_callTy call_list_of (by rfl) T.b_list (by decide +kernel) (pa_cons (pc (c_shares_of T) hr (by decide) (by rfl) (pa_cons (pv 1) (pa_cons (pc (c_dealt T) hr (by decide) (by rfl) (pa_cons (pv 0) (pa_cons (pv 2) (pa_cons (pv 3) pa_nil)))) pa_nil))) pa_nil)))
      (pss_cons (ps_if (pt_cmpR op_eq (pv 4) pe_int (nomark _))
        (pss_one (ps_asg (pe_callB (call_min2 rfl) (by rfl) T.b_min (by decide +kernel) (pa_cons (pv 1) (pa_cons (pe_op op_add (pe_ix ix_list (pv 6) (pv 5) (fun _ _ => rfl)) pe_int) pa_nil))) (pg_sub (pv 6) (pv 5) set_list))) pss_nil)
      (pss_cons (ps_if (pt_cmpR op_eq (pv 4) pe_int (nomark _))
        (pss_one (ps_asg (pe_callB (call_max2 rfl) (by rfl) T.b_max (by decide +kernel) (pa_cons pe_int (pa_cons (pe_op op_sub (pe_ix ix_list (pv 6) (pv 5) (fun _ _ => rfl)) pe_int) pa_nil))) (pg_sub (pv 6) (pv 5) set_list))) pss_nil)
      (pss_one (ps_ret (pe_callTy call_tuple_of (by rfl) T.b_tuple (by decide +kernel) (pa_cons (pv 6) pa_nil)))))))), ?_⟩
    refine ⟨_, rfl, W, 6, rfl, by decide, by decide, hW, fun H1 v v0 v1 k1 w1 => ?_⟩
    refine ⟨_, rfl, _, rfl, W, _, rfl, by omega, in200 (by omega), w1, fun H2 at_ a0 a1 k2 w2 => ⟨_, _, rfl, ?_⟩⟩
    have k12 := k1.trans k2
    obtain ⟨j, rfl⟩ : ∃ j : Nat, at_ = (j : Int) := ⟨at_.toNat, by omega⟩
    refine ⟨_, rfl, rfl, _, rfl, ?_⟩
    by_cases hv : V.int v = V.int 0
    · rw [decide_eq_true hv]
      refine iteT ?_
      refine ⟨_, rfl, _, rfl, _, rfl, _, rfl, W, 3, rfl, by decide, by decide, w2, fun H3 y y0 y1 k3 w3 => ?_⟩
      refine ⟨_, _, rfl, rfl, _, _, rfl, rfl, W, m, _, rfl, by omega, by omega, by omega, w3, fun H4 t cs hcl hc0 hcs k4 w4 nt et => ?_⟩
      refine ⟨t, _, rfl, .inr (.inl (.inl et)), fun F nF => ?_⟩
      have k14 := (k12.trans k3).trans k4
      have neF := wl_ne w4 nF
      have sF := same_upd (o := .lst (cs.map V.int)) nF
      have eF : (upd H4 F (.lst (cs.map V.int))) F = some (.lst (cs.map V.int)) := upd_same
      generalize upd H4 F (.lst (cs.map V.int)) = H5 at *
      have k15 : Keep W H H5 := k14.trans (Keep.of_same sF)
      have w5 := w4.same sF
      refine ⟨_, rfl, F, rfl, ⟨_, .inl (.inl eF)⟩, fun D nD => ?_⟩
      refine lc_list (K := K) (a := F) (xs := cs.map V.int) (fun i H' => Same H5 H' ∧ H' D = some (.lst ((cs.take i).map fun c => V.int (if c < u then c else u)))) ⟨same_upd nD, upd_same⟩ (fun i H' _ ⟨sm, _⟩ => .inl (.inl (sm _ _ eF))) ?_ ?_
      · rintro i x H' hx ⟨sm, eD⟩
        obtain ⟨n, hn, rfl, hm⟩ := int_at hx
        have hi : i < cs.length := (List.getElem?_eq_some_iff.mp hn).1
        refine ⟨rfl, yes (iteT ?_)⟩
        refine ⟨_, rfl, _, rfl, _, _, rfl, _, eD, ?_, fun b o e => ?_, ?_⟩
        · rw [List.length_map, List.length_take]
          exact lt_line (m := 1000) (by omega) (by omega)
        · rw [upd_ne (ne_of_none e nD)]
          exact sm b o e
        · rw [upd_same, take_succ_map _ hn]
      · rintro H' ⟨sm, eD⟩
        rw [List.length_map, List.take_length] at eD
        refine ⟨D, _, rfl, .inl ⟨.inl (.inl eD), fun q2 nq => ?_⟩⟩
        have sq := same_upd (o := .tup (cs.map fun c => V.int (if c < u then c else u))) nq
        refine q _ q2 (cs.map fun c => if c < u then c else u) (by rw [List.length_map, hcl]) (fun x hx => ?_) (k15.trans (Keep.of_same (sm.trans sq))) (w5.same (sm.trans sq)) (wl_free (k15.trans (Keep.of_same sm)) (w5.same sm) nq) ?_
        · rw [List.mem_map] at hx
          obtain ⟨c, hc, rfl⟩ := hx
          have := hc0 c hc
          split <;> omega
        · rw [upd_same, List.map_map]
          rfl
    · rw [decide_eq_false hv]
      refine iteF ?_
      refine ⟨_, rfl, _, rfl, _, rfl, _, rfl, W, m, p, rfl, by omega, by omega, by omega, w2, fun H4 t cs hcl hc0 hcs k4 w4 nt et => ?_⟩
      refine ⟨u, t, cs, rfl, .inl (.inl et), by omega, by omega, u1, by omega, in200 (by omega), fun H5 t2 s5 nt2 et2 => ?_⟩
      have hSl : (sharesOf u cs.sum cs).length = m + 1 := by
        unfold sharesOf
        rw [List.length_map, hcl]
      have hS0 := shares_ok (u := u) (p := cs.sum) (by omega) (by omega) hc0 rfl
      generalize sharesOf u cs.sum cs = S at *
      refine ⟨t2, _, rfl, .inr (.inl (.inl et2)), fun F nF => ?_⟩
      have k15 : Keep W H H5 := (k12.trans k4).trans (Keep.of_same s5)
      have w5 := w4.same s5
      have neF := wl_ne w5 nF
      have nF0 := wl_free k15 w5 nF
      suffices rest2 : ∀ (S : List Int) (H6 : Hp), S.length = m + 1 → (∀ x ∈ S, 0 ≤ x ∧ x ≤ u) → Keep W H H6 → Wl H6 W → H6 F = some (.lst (S.map V.int)) → tSeq _ _ _ _ H6 from by
        have k16 : Keep W H (upd H5 F (.lst (S.map V.int))) := k15.trans (Keep.of_same (same_upd nF))
        have w6 : Wl (upd H5 F (.lst (S.map V.int))) W := w5.same (same_upd nF)
        have eF : (upd H5 F (.lst (S.map V.int))) F = some (.lst (S.map V.int)) := upd_same
        generalize upd H5 F (.lst (S.map V.int)) = H6 at *
        refine ⟨_, rfl, rfl, _, rfl, ?_⟩
        by_cases hv1 : V.int v = V.int 1
        · rw [decide_eq_true hv1]
          refine iteT ?_
          have hj : j < S.length := by omega
          refine ⟨_, rfl, _, rfl, _, rfl, F, _, _, .int S[j], rfl, rfl, .inl (.inl eF), atI_nat (by rw [List.getElem?_map, List.getElem?_eq_getElem hj]; rfl), _, _, rfl, rfl, _, _, rfl, ?_⟩
          refine ⟨_, rfl, _, rfl, F, _, _, j, rfl, rfl, eF, ixN_ok (by rw [List.length_map]; exact hj), ?_⟩
          have hx := hS0 S[j] (List.getElem_mem hj)
          refine rest2 (S.set j (if S[j] + 1 < u then S[j] + 1 else u)) _ (by rw [List.length_set]; exact hSl) (set_ok hS0 (by split <;> omega) (by split <;> omega)) (keep_new k16 nF0) (wl_new w6 neF) ?_
          rw [upd_same]
          exact congrArg (fun l => some (HO.lst l)) set_at
        · rw [decide_eq_false hv1]
          exact iteF (rest2 S H6 hSl hS0 k16 w6 eF)
      intro S H6 hSl hS0 k16 w6 eF
      suffices rest3 : ∀ (S : List Int) (H6 : Hp), S.length = m + 1 → (∀ x ∈ S, 0 ≤ x ∧ x ≤ u) → Keep W H H6 → Wl H6 W → H6 F = some (.lst (S.map V.int)) → tRet (tCB (fun xs H Q => ∃ p ys, xs = [V.ref p] ∧ ((SqL K H p ys ∧ ∀ l, H l = none → Q (.ref l) (upd H l (.tup ys))) ∨ (SqT K H p ys ∧ Q (.ref p) H))) (tCons (tVar 6) tNil)) { nx := fun _ H' => Q .non H', rt := Q } ((((start n__law_shares [.ref W, .int u, .int ((m : Int) + 1), .int p]).set 4 (some (.int v))).set 5 (some (.int (j : Int)))).set 6 (some (.ref F))) H6 from by
        refine ⟨_, rfl, rfl, _, rfl, ?_⟩
        by_cases hv1 : V.int v = V.int 2
        · rw [decide_eq_true hv1]
          refine iteT ?_
          have hj : j < S.length := by omega
          refine ⟨_, rfl, _, rfl, F, _, _, .int S[j], rfl, rfl, .inl (.inl eF), atI_nat (by rw [List.getElem?_map, List.getElem?_eq_getElem hj]; rfl), _, _, rfl, rfl, _, _, rfl, ?_⟩
          refine ⟨_, rfl, _, rfl, F, _, _, j, rfl, rfl, eF, ixN_ok (by rw [List.length_map]; exact hj), ?_⟩
          have hx := hS0 S[j] (List.getElem_mem hj)
          refine rest3 (S.set j (if S[j] - 1 > 0 then S[j] - 1 else 0)) _ (by rw [List.length_set]; exact hSl) (set_ok hS0 (by split <;> omega) (by split <;> omega)) (keep_new k16 nF0) (wl_new w6 neF) ?_
          rw [upd_same]
          exact congrArg (fun l => some (HO.lst l)) set_at
        · rw [decide_eq_false hv1]
          exact iteF (rest3 S H6 hSl hS0 k16 w6 eF)
      intro S H6 hSl hS0 k16 w6 eF
      refine ⟨_, rfl, F, _, rfl, .inl ⟨.inl (.inl eF), fun q2 nq => ?_⟩⟩
      have sq := same_upd (o := .tup (S.map V.int)) nq
      exact q _ q2 S hSl hS0 (k16.trans (Keep.of_same sq)) (w6.same sq) (wl_free k16 w6 nq) upd_same
end
end K68
/-! a tuple times 0, times 1, times more -/
namespace K68
open PySem PySem.Spec PyProof.Rows L2
theorem tup_times0 (l : Addr) (items : Array Value) (n : Nat) (dd : Option Addr) (sl : Array (Option Value)) (u : Tok) (hi : items.isEmpty = false) :
    Meets (Builtin.«tuple.__mul__» ⟨[.ref l, .int 0 u], []⟩) (fun _ R z => z.heap.get? l = some { cls := .type "tuple", dict := dd, data := .seq items n, slots := sl } ∧
      R (.ok (.ret (Value.ref z.heap.objs.size))) { z with heap := z.heap.push { cls := Value.type "tuple", data := Data.seq #[] }, toks := z.toks }) :=
  .of_wp fun prog w A R z hz => by
    obtain ⟨hp, gg, dd2, kk, oo⟩ := z
    obtain ⟨hl, hq⟩ := hz
    have ix := AutoSeq1.idx_int
    have d0 : (decide ((0 : Int) < -(2 ^ 63)) || decide ((0 : Int) ≥ 2 ^ 63)) = false := by decide
    have d1 : (items.isEmpty || (0 : Int) == 1) = false := by rw [hi]; rfl
    have d2 : (decide ((0 : Int) ≤ 0) || items.isEmpty) = true := rfl
    wp_walk using wpAny_loadPart' hl
    repeat (first
      | (refine wpAny_ite_false (decide_eq_false (by rw [d0]; exact Bool.false_ne_true)) ?_; wp_walk using wpAny_loadPart' hl)
      | (refine wpAny_ite_false (decide_eq_false (by rw [d1]; exact Bool.false_ne_true)) ?_; wp_walk using wpAny_loadPart' hl)
      | (refine wpAny_ite_true (decide_eq_true (by rw [d2])) ?_; wp_walk using wpAny_loadPart' hl))
    exact ⟨_, rfl, hq⟩
theorem tup_times1 (l : Addr) (items : Array Value) (n : Nat) (dd : Option Addr) (sl : Array (Option Value)) (u : Tok) :
    Meets (Builtin.«tuple.__mul__» ⟨[.ref l, .int 1 u], []⟩) (fun _ R z => z.heap.get? l = some { cls := .type "tuple", dict := dd, data := .seq items n, slots := sl } ∧ R (.ok (.ret (Value.ref l))) z) :=
  .of_wp fun prog w A R z hz => by
    obtain ⟨hp, gg, dd2, kk, oo⟩ := z
    obtain ⟨hl, hq⟩ := hz
    have ix := AutoSeq1.idx_int
    have d0 : (decide ((1 : Int) < -(2 ^ 63)) || decide ((1 : Int) ≥ 2 ^ 63)) = false := by decide
    have d1 : (items.isEmpty || (1 : Int) == 1) = true := by rw [show ((1 : Int) == 1) = true from rfl, Bool.or_true]
    wp_walk using wpAny_loadPart' hl
    repeat (first
      | (refine wpAny_ite_false (decide_eq_false (by rw [d0]; exact Bool.false_ne_true)) ?_; wp_walk using wpAny_loadPart' hl)
      | (refine wpAny_ite_true (decide_eq_true (by rw [d1])) ?_; wp_walk using wpAny_loadPart' hl))
    exact ⟨_, rfl, hq⟩
/-- t * k -/
def rRepA (K : PySem.W.Frag) : R2 := fun x y H Q => ∃ (l : Addr) (k : Nat) (xs : List V), x = .ref l ∧ y = .int (k : Int) ∧ SqT K H l xs ∧ xs ≠ [] ∧ k ≤ 1000 ∧ xs.length ≤ 1000 ∧ (k = 1 → Q (.ref l) H) ∧ (k ≠ 1 → ∀ p, H p = none → Q (.ref p) (upd H p (.tup (List.replicate k xs).flatten)))
theorem op_repA {X : Cx} : OpR X (binaryOp .Mult) (rRepA X.K) := by
  intro pins s σ H x y v u Q I rx ry h
  obtain ⟨l, k, xs, rfl, rfl, hT, hne, hk, hz, q1, q2⟩ := h
  by_cases k2 : 2 ≤ k
  · exact op_repT pins s σ H _ _ v u Q I rx ry ⟨l, (k : Int), xs, rfl, rfl, hT, hne, by omega, by omega, hz, fun p np => by
      rw [Int.toNat_natCast]
      exact q2 (by omega) p np⟩
  · cases rx
    obtain ⟨t, rfl⟩ := ry
    obtain ⟨its, r, ⟨⟨cls, dd, data, sl⟩, ho, hc, n, hd⟩, hs⟩ := I.tuple hT
    simp only at hc hd
    subst hc hd
    have hi : its.toArray.isEmpty = false := by
      cases its with
      | nil =>
        have := r.length
        exact absurd (List.eq_nil_of_length_eq_zero this) hne
      | cons a b => rfl
    rcases (by omega : k = 0 ∨ k = 1) with rfl | rfl
    · refine wpAny_binaryOp_repeat_ref (T := "tuple") (U := "int") (by decide) ⟨_, ho, rfl⟩ (fun s' => typeIs_int s' _ t) noFill_tuple_mul F.fills_int_mul F.slot_int_rmul repeat_tuple F.slot_int_index.lookup
        (call_meets F.slot_int_rmul (typeIs_int s _ t) F.entry_int_rmul (F.args_int_rmul_2 _ _) (int_rmul_tuple _ t l its.toArray n dd sl)
          ⟨ho, rfl, ⟨_, ho, rfl⟩, call_meets F.slot_tuple_mul ⟨_, ho, rfl⟩ F.entry_tuple_mul (F.args_tuple_mul_2 _ _) (tup_times0 l its.toArray n dd sl t hi) ⟨ho, ?_⟩⟩)
      refine ⟨.ref s.heap.objs.size, _, I.laid (t' := s.toks) (o := .tup []) (fun b ob q => Heap.get?_push_of_some _ q) (Nat.le_refl _) ?_, rfl, q2 (by decide) _ (I.hok.fresh (Nat.le_refl _))⟩
      exact ⟨Nat.zero_le _, [], .nil, IsTup.new _ _⟩
    · refine wpAny_binaryOp_repeat_ref (T := "tuple") (U := "int") (by decide) ⟨_, ho, rfl⟩ (fun s' => typeIs_int s' _ t) noFill_tuple_mul F.fills_int_mul F.slot_int_rmul repeat_tuple F.slot_int_index.lookup
        (call_meets F.slot_int_rmul (typeIs_int s _ t) F.entry_int_rmul (F.args_int_rmul_2 _ _) (int_rmul_tuple _ t l its.toArray n dd sl)
          ⟨ho, rfl, ⟨_, ho, rfl⟩, call_meets F.slot_tuple_mul ⟨_, ho, rfl⟩ F.entry_tuple_mul (F.args_tuple_mul_2 _ _) (tup_times1 l its.toArray n dd sl t) ⟨ho, ?_⟩⟩)
      exact ⟨.ref l, H, I, rfl, q1 rfl⟩
end K68
/-! counts drawn -/
namespace K68
open PySem PySem.Spec PyProof.Rows L2
theorem sum_le {B : Int} : ∀ {l : List Int}, (∀ x ∈ l, x ≤ B) → l.sum ≤ l.length * B
  | [], _ => by simp
  | x :: r, h => by
    have h1 := h x List.mem_cons_self
    have h2 := sum_le fun y hy => h y (List.mem_cons_of_mem x hy)
    rw [List.sum_cons, List.length_cons]
    have e : (((r.length + 1 : Nat)) : Int) * B = (r.length : Int) * B + B := by
      rw [Int.natCast_add, Int.add_mul, Int.natCast_one, Int.one_mul]
    omega
theorem rep_flat (k : Nat) (x : V) : (List.replicate k [x]).flatten = List.replicate k x := by
  induction k with
  | zero => rfl
  | succ k ih =>
    rw [List.replicate_succ, List.flatten_cons, ih, List.replicate_succ]
    rfl
theorem sum_zero (k : Nat) : (List.replicate k (0 : Int)).sum = 0 := by
  induction k with
  | zero => rfl
  | succ k ih =>
    rw [List.replicate_succ, List.sum_cons, ih]
    rfl
theorem p30 : (10 : Int) ^ (30 : Int).toNat = 1000000000000000000000000000000 := by decide
theorem b200 : (10000000000000000000000000000000000 : Int) < 2 ^ 200 := by decide
section
variable {P : Program} {w : World} {K : PySem.W.Frag} {mg : Str → Option Value} {base : Heap} {C fi fe pp ps pt gp gs gt : Addr}
/-- a comprehension of draws -/
theorem lc_draws {te : TE} {σ : L2.St} {H1 : Hp} {W D : Addr} {n : Nat} (A B : Int) {i1 : Nat} {vs : List Nat} {Qd : Hp → Prop} (nD : H1 D = none) (hW : Wl H1 W) (small : n ≤ 1000)
    (hw : ∀ u : V, wipe ((wipe σ vs).set i1 (some u)) vs = wipe σ vs)
    (ht : ∀ (u : V) (H2 : Hp) (Q2 : VK), Wl H2 W → (∀ (H3 : Hp) (v : Int), A ≤ v → v ≤ B → Keep W H2 H3 → Wl H3 W → Q2 (.int v) H3) → te ((wipe σ vs).set i1 (some u)) H2 Q2)
    (hd : ∀ (H' : Hp) (ds : List Int), ds.length = n → (∀ x ∈ ds, A ≤ x ∧ x ≤ B) → Keep W H1 H' → Wl H' W → H' D = some (.lst (ds.map V.int)) → Qd H') :
    LcGoal (Itr 0 n) (gName i1) tYes te vs σ H1 D Qd := by
  have neD := wl_ne hW nD
  refine lc_range (lo := 0) (n := n) (fun i H' => ∃ ds : List Int, ds.length = i ∧ (∀ x ∈ ds, A ≤ x ∧ x ≤ B) ∧ Keep W H1 H' ∧ Wl H' W ∧ H' D = some (.lst (ds.map V.int))) ⟨[], rfl, by simp, keep_new (Keep.refl W H1) nD, wl_new hW neD, upd_same⟩ ?_ ?_
  · rintro i H' hi ⟨ds, hl, hb, k, hw', eD⟩
    refine ⟨hw _, yes (iteT ?_)⟩
    refine ht _ H' _ hw' fun H3 v v0 v1 k3 w3 => ⟨_, k3 _ _ neD.symm eD, ?_, ds ++ [v], ?_, fun x hx => ?_, keep_new (k.trans k3) nD, wl_new w3 neD, ?_⟩
    · rw [List.length_map, hl]
      exact lt_line (m := 1000) (by omega) (by omega)
    · rw [List.length_append, hl]
      rfl
    · rcases List.mem_append.mp hx with z | z
      · exact hb x z
      · rw [List.mem_singleton] at z
        omega
    · rw [upd_same, List.map_append]
      rfl
  · rintro H' ⟨ds, hl, hb, k, hw', eD⟩
    exact hd H' ds hl hb k hw' eD
def spCounts (K : PySem.W.Frag) : Sp := fun vs H Q _ => ∃ (W : Addr) (u : Int) (m : Nat), vs = [.ref W, .int u, .int ((m : Int) + 1)] ∧ 1 ≤ m ∧ m ≤ 5 ∧ 10 ≤ u ∧ u ≤ 1000 ∧ Wl H W ∧
  ∀ (H' : Hp) (t : Addr) (cs : List Int), cs.length = m + 1 → (∀ x ∈ cs, 0 ≤ x) → 0 < cs.sum → cs.sum < 2 ^ 200 → Keep W H H' → Wl H' W → H' t = some (.tup (cs.map V.int)) → Q (.ref t) H'
theorem c_counts (T : Tx K mg C fi fe pp ps pt gp gs gt) : Cl P w K mg base 2 "_law_counts" ["_law_well_here", "_law_unit", "_law_many"] (spCounts K) := by
  refine cl_of T.d__law_counts sc__law_counts bi__law_counts (fun vs H Q E h => ?_) (fun f cdv A outer s H vs Q E hr h => ?_)
  · obtain ⟨W, u, m, rfl, _⟩ := h
    rfl
  · obtain ⟨W, u, m, rfl, m1, m5, u0, u1, hW, q⟩ := h
    refine ⟨_, pss_cons (ps_set (i := 3) sc__law_counts.nd rfl (.inl rfl) (pc (c_draw T) hr (by decide) (by rfl) (pa_cons (pv 0) (pa_cons pe_int pa_nil))))
      (pss_cons (ps_if (pt_cmpR op_eq (pv 3) pe_int (nomark _))
        (pss_cons (ps_set (i := 4) sc__law_counts.nd rfl (.inl rfl) (pe_callTy call_tuple_of (by rfl) T.b_tuple (by decide +kernel) (pa_cons (pe_lc (own := [("_law_turn", 7)]) (g := gName 7) (tt := tYes) (by rfl) sc__law_counts.nd (pi_range1 (by rfl) T.b_range (pa_cons (pv 2) pa_nil)) (blkOk_by (N := n__law_counts) (sc := defScope s__law_counts) (by decide +kernel))
            (fun _ _ _ _ _ => pg_name (i := 7) sc__law_counts.nd rfl (Or.inl rfl)) (fun _ _ _ _ _ => pts_nil) (fun _ _ _ _ _ => pc (c_draw T) hr (by decide) (by rfl) (pa_cons (pv 0) (pa_cons pe_int pa_nil)))) pa_nil)))
        (pss_one (ps_ret (pe_ifExp (pt_cmpR op_gt (pe_callB (call_sumT rfl) (by rfl) T.b_sum (by decide +kernel) (pa_cons (pv 4) pa_nil)) pe_int (nomark _)) (pv 4) (pe_op op_catA (pe_slice sl_tupA (pv 4) (po_some pe_int) po_none) (pe_tup (pa_cons pe_int pa_nil))))))) pss_nil)
      (pss_cons (ps_if (pt_cmpR op_eq (pv 3) pe_int (nomark _))
        (pss_one (ps_ret (pe_callTy call_tuple_of (by rfl) T.b_tuple (by decide +kernel) (pa_cons (pe_lc (own := [("_law_turn", 7)]) (g := gName 7) (tt := tYes) (by rfl) sc__law_counts.nd (pi_range1 (by rfl) T.b_range (pa_cons (pv 2) pa_nil)) (blkOk_by (N := n__law_counts) (sc := defScope s__law_counts) (by decide +kernel))
            (fun _ _ _ _ _ => pg_name (i := 7) sc__law_counts.nd rfl (Or.inl rfl)) (fun _ _ _ _ _ => pts_nil) (fun _ _ _ _ _ => pe_op op_add pe_int (pc (c_draw T) hr (by decide) (by rfl) (pa_cons (pv 0) (pa_cons (pe_op op_pow pe_int pe_int) pa_nil))))) pa_nil)))) pss_nil)
      (pss_cons (ps_par (i := 5) (j := 6) (by rfl) sc__law_counts.nd rfl rfl (by decide) rfl rfl (pa_cons (pe_op op_add pe_int (pc (c_draw T) hr (by decide) (by rfl) (pa_cons (pv 0) (pa_cons pe_int pa_nil)))) (pa_cons (pe_op op_add (pe_op op_mul pe_int (pc (c_draw T) hr (by decide) (by rfl) (pa_cons (pv 0) (pa_cons (pv 1) pa_nil)))) pe_int) pa_nil)) (by rfl))
      (pss_one (ps_ret (pe_op op_catA (pe_tup (pa_cons (pe_op op_mul (pv 5) (pv 6)) (pa_cons (pe_op op_mul (pv 5) (pe_op op_sub (pe_op op_mul pe_int (pv 1)) (pv 6))) pa_nil))) (pe_op op_repA (pe_tup (pa_cons pe_int pa_nil)) (pe_op op_sub (pv 2) pe_int)))))))), ?_⟩
    have hmt : ((m : Int) + 1).toNat = m + 1 := by omega
    refine ⟨_, rfl, W, 3, rfl, by decide, by decide, hW, fun H1 v v0 v1 k1 w1 => ?_⟩
    refine ⟨_, rfl, rfl, _, rfl, ?_⟩
    by_cases hv : V.int v = V.int 0
    · rw [decide_eq_true hv]
      refine iteT ?_
      refine ⟨_, rfl, _, rfl, (in62 (by omega) (by omega)).1, (in62 (by omega) (by omega)).2, fun D nD => ?_⟩
      rw [hmt]
      refine lc_draws 0 8 nD w1 (by omega) ?_ ?_ ?_
      · exact fun _ => rfl
      · exact fun x H2 Q2 h2 hq => ⟨_, rfl, W, 9, rfl, by decide, by decide, h2, fun H3 v v0 v1 k3 w3 => hq H3 v v0 (by omega) k3 w3⟩
      intro H2 ds hdl hdb k2 w2 eD
      refine ⟨D, _, rfl, .inl ⟨.inl (.inl eD), fun t nt => ?_⟩⟩
      have st := same_upd (o := .tup (ds.map V.int)) nt
      have et : (upd H2 t (.tup (ds.map V.int))) t = some (.tup (ds.map V.int)) := upd_same
      generalize upd H2 t (.tup (ds.map V.int)) = H3 at *
      have k3 : Keep W H H3 := (k1.trans k2).trans (Keep.of_same st)
      have w3 := w2.same st
      have hs := sum_le fun x hx => (hdb x hx).2
      have hds0 := sum_nn fun x hx => (hdb x hx).1
      refine ⟨_, rfl, t, ds, rfl, .inl (.inl et), _, _, rfl, rfl, decide (0 < ds.sum), rfl, ?_⟩
      have hb2 := b200
      have hl8 : (ds.length : Int) * 8 ≤ 100 := by omega
      by_cases hp : 0 < ds.sum
      · rw [decide_eq_true hp]
        refine iteT ⟨_, rfl, ?_⟩
        exact q H3 t ds hdl (fun x hx => (hdb x hx).1) hp (by omega) k3 w3 et
      · rw [decide_eq_false hp]
        refine iteF ⟨_, rfl, _, rfl, t, _, rfl, .inl (.inl et), fun h0 => ?_, fun _ p np => ?_⟩
        · exfalso
          have h1 := h0.1
          rw [show (1 : Int) = ((1 : Nat) : Int) from rfl, HT.sIx_nat, List.length_map] at h1
          omega
        · have sp := same_upd (o := .tup (cutV (ds.map V.int) (some 1) none)) np
          have ep : (upd H3 p (.tup (cutV (ds.map V.int) (some 1) none))) p = some (.tup ((ds.drop 1).map V.int)) := by
            rw [upd_same, show (1 : Int) = ((1 : Nat) : Int) from rfl, cut_from, List.map_drop]
          generalize upd H3 p (.tup (cutV (ds.map V.int) (some 1) none)) = H4 at *
          refine ⟨(by show 1 ≤ sizeLine; decide), fun r nr => ?_⟩
          have sr := same_upd (o := .tup [V.int 1]) nr
          have er : (upd H4 r (.tup [V.int 1])) r = some (.tup [V.int 1]) := upd_same
          generalize upd H4 r (.tup [V.int 1]) = H5 at *
          refine ⟨p, r, _, _, rfl, rfl, .inl (.inl (sr _ _ ep)), .inl (.inl er), ?_, fun h0 => ?_, fun _ h0 => ?_, fun _ _ z nz => ?_⟩
          · rw [List.length_map, List.length_drop]
            exact Nat.le_of_lt (lt_line (m := 100) (by show ds.length - 1 + 1 ≤ 100; omega) (by omega))
          · have := congrArg List.length h0
            rw [List.length_map, List.length_drop] at this
            simp at this
            omega
          · cases h0
          · have sz := same_upd (o := .tup ((ds.drop 1).map V.int ++ [V.int 1])) nz
            have s35 := (sp.trans sr).trans sz
            refine q _ z (ds.drop 1 ++ [1]) ?_ (fun x hx => ?_) ?_ ?_ (k3.trans (Keep.of_same s35)) (w3.same s35) (by rw [upd_same, List.map_append]; rfl)
            · rw [List.length_append, List.length_drop, hdl]
              simp
            · rcases List.mem_append.mp hx with y | y
              · exact (hdb x (List.mem_of_mem_drop y)).1
              · rw [List.mem_singleton] at y
                omega
            · rw [sum_app1]
              have := sum_nn (l := ds.drop 1) fun x hx => (hdb x (List.mem_of_mem_drop hx)).1
              omega
            · rw [sum_app1]
              have h1 := sum_le (l := ds.drop 1) fun x hx => (hdb x (List.mem_of_mem_drop hx)).2
              have h2 : ((ds.drop 1).length : Int) * 8 ≤ 100 := by
                rw [List.length_drop]
                omega
              omega
    · rw [decide_eq_false hv]
      refine iteF ?_
      refine ⟨_, rfl, rfl, _, rfl, ?_⟩
      by_cases hv1 : V.int v = V.int 1
      · rw [decide_eq_true hv1]
        refine iteT ?_
        refine ⟨_, rfl, _, rfl, (in62 (by omega) (by omega)).1, (in62 (by omega) (by omega)).2, fun D nD => ?_⟩
        rw [hmt]
        refine lc_draws 1 1000000000000000000000000000000 nD w1 (by omega) ?_ ?_ ?_
        · exact fun _ => rfl
        · intro x H2 Q2 h2 hq
          have hp := p30
          refine ⟨_, rfl, _, _, rfl, rfl, ⟨by decide, by decide, by decide⟩, W, _, rfl, ?_, ?_, h2, fun H3 v v0 v1 k3 w3 => ⟨_, _, rfl, rfl, hq H3 _ (by omega) ?_ k3 w3⟩⟩
          · rw [hp]
            decide
          · rw [hp]
            decide
          · rw [hp] at v1
            omega
        intro H2 ds hdl hdb k2 w2 eD
        refine ⟨D, _, rfl, .inl ⟨.inl (.inl eD), fun t nt => ?_⟩⟩
        have st := same_upd (o := .tup (ds.map V.int)) nt
        have h1 := sum_le fun x hx => (hdb x hx).2
        have h2 : (ds.length : Int) * 1000000000000000000000000000000 ≤ 10000000000000000000000000000000 := by omega
        have hb2 := b200
        refine q _ t ds hdl (fun x hx => by have := (hdb x hx).1; omega) ?_ (by omega) ((k1.trans k2).trans (Keep.of_same st)) (w2.same st) upd_same
        cases ds with
        | nil => cases hdl
        | cons y r =>
          have hy := (hdb y List.mem_cons_self).1
          have hr0 := sum_nn (l := r) fun x hx => by have := (hdb x (List.mem_cons_of_mem y hx)).1; omega
          rw [List.sum_cons]
          omega
      · rw [decide_eq_false hv1]
        refine iteF ?_
        have hu2 := in200 (i := u) (by omega)
        refine ⟨_, rfl, W, 9, rfl, by decide, by decide, w1, fun H2 y y0 y1 k2 w2 => ?_⟩
        refine ⟨_, _, rfl, rfl, _, rfl, _, rfl, W, u, rfl, by omega, hu2, w2, fun H3 z z0 z1 k3 w3 => ?_⟩
        refine ⟨_, _, rfl, rfl, .inl two64, _, _, rfl, rfl, _, _, rfl, ?_⟩
        dsimp only
        have k13 := (k1.trans k2).trans k3
        have hta : 0 < 1 + y ∧ 1 + y ≤ 9 := by omega
        have hoa : 0 < 2 * z + 1 ∧ 2 * z + 1 < 2 * u := by omega
        generalize 1 + y = ti at *
        generalize 2 * z + 1 = od at *
        have e1 : 0 < ti * od := Int.mul_pos hta.1 hoa.1
        have e2 : 0 < ti * (2 * u - od) := Int.mul_pos hta.1 (by omega)
        have e3 : ti * od ≤ 9 * 2000 := Int.mul_le_mul hta.2 (by omega) (by omega) (by omega)
        have e4 : ti * (2 * u - od) ≤ 9 * 2000 := Int.mul_le_mul hta.2 (by omega) (by omega) (by omega)
        refine ⟨_, rfl, _, rfl, _, _, rfl, rfl, .inl (in64 (by omega) (by omega)), _, rfl, _, rfl, _, _, rfl, rfl, .inl two64, _, rfl, _, _, rfl, rfl, _, _, rfl, rfl, .inl (in64 (by omega) (by omega)), (by show 2 ≤ sizeLine; decide), fun p np => ?_⟩
        dsimp only
        have sp := same_upd (o := .tup [V.int (ti * od), V.int (ti * (2 * u - od))]) np
        have ep : (upd H3 p (.tup [V.int (ti * od), V.int (ti * (2 * u - od))])) p = some (.tup [V.int (ti * od), V.int (ti * (2 * u - od))]) := upd_same
        generalize upd H3 p (.tup [V.int (ti * od), V.int (ti * (2 * u - od))]) = H4 at *
        refine ⟨(by show 1 ≤ sizeLine; decide), fun r nr => ?_⟩
        have sr := same_upd (o := .tup [V.int 0]) nr
        have er : (upd H4 r (.tup [V.int 0])) r = some (.tup [V.int 0]) := upd_same
        generalize upd H4 r (.tup [V.int 0]) = H5 at *
        have hb2 := b200
        have fin : ∀ (H6 : Hp) (b : Addr), Same H5 H6 → H6 b = some (.tup (List.replicate (m - 1) (V.int 0))) → rCatA K (.ref p) (.ref b) H6 Q := by
          intro H6 b s6 eb
          have ep6 := s6 _ _ (sr _ _ ep)
          have s36 := sp.trans (sr.trans s6)
          refine ⟨p, b, _, _, rfl, rfl, .inl (.inl ep6), .inl (.inl eb), ?_, fun h0 => ?_, fun _ h0 => ?_, fun _ h0 c nc => ?_⟩
          · rw [List.length_replicate]
            exact Nat.le_of_lt (lt_line (m := 100) (by show 2 + (m - 1) ≤ 100; omega) (by omega))
          · cases h0
          · have hm1 : m = 1 := by
              have := congrArg List.length h0
              rw [List.length_replicate] at this
              simp at this
              omega
            subst hm1
            refine q H6 p [ti * od, ti * (2 * u - od)] rfl (fun x hx => ?_) ?_ ?_ (k13.trans (Keep.of_same s36)) (w3.same s36) ep6
            · simp only [List.mem_cons, List.not_mem_nil, or_false] at hx
              omega
            · show 0 < ti * od + (ti * (2 * u - od) + 0)
              omega
            · show ti * od + (ti * (2 * u - od) + 0) < 2 ^ 200
              omega
          · have sc := same_upd (o := .tup ([V.int (ti * od), V.int (ti * (2 * u - od))] ++ List.replicate (m - 1) (V.int 0))) nc
            have s37 := s36.trans sc
            have hsum : ([ti * od, ti * (2 * u - od)] ++ List.replicate (m - 1) (0 : Int)).sum = ti * od + ti * (2 * u - od) := by
              rw [sum_app, sum_zero]
              show ti * od + (ti * (2 * u - od) + 0) + 0 = _
              omega
            refine q _ c ([ti * od, ti * (2 * u - od)] ++ List.replicate (m - 1) 0) ?_ (fun x hx => ?_) ?_ ?_ (k13.trans (Keep.of_same s37)) (w3.same s37) ?_
            · rw [List.length_append, List.length_replicate]
              show 2 + (m - 1) = m + 1
              omega
            · rcases List.mem_append.mp hx with h | h
              · simp only [List.mem_cons, List.not_mem_nil, or_false] at h
                omega
              · have := List.eq_of_mem_replicate h
                omega
            · rw [hsum]
              omega
            · rw [hsum]
              omega
            · rw [upd_same, List.map_append, List.map_replicate]
              rfl
        refine ⟨_, rfl, _, _, rfl, rfl, r, m - 1, [V.int 0], rfl, ?_, .inl (.inl er), by simp, by omega, by simp, fun h1 => ?_, fun _ c nc => ?_⟩
        · show V.int ((m : Int) + 1 - 2) = V.int ((m - 1 : Nat) : Int)
          congr 1
          omega
        · refine fin H5 r (Same.refl H5) ?_
          rw [er, h1]
          rfl
        · refine fin _ c (same_upd nc) ?_
          rw [upd_same, rep_flat]
end
end K68
/-! calls by name alone; what is compared and shown as data -/
namespace K68
open PySem PySem.Spec PyProof.Rows L2
theorem vals_rev : ∀ {zs : List V} {ws : List Value}, Vals zs ws → Vals zs.reverse ws.reverse
  | _, _, .nil => .nil
  | _, _, .cons r t => by
    rw [List.reverse_cons, List.reverse_cons]
    exact Vals.append (vals_rev t) (.cons r .nil)
/-- the arguments are given by name, in the order from the last parameter to the first -/
abbrev BiK (x : Str) (st : Stmt) (ps ks : List Str) : Prop := ∀ (kV doc pm : Value) (an : Option Addr) (cdv ct : Value) (ws : List Value), ws.length = ps.length →
  bindArgs (PySem.W.fnOf x x (defArgs st) (defBody st) (defScope st) .none kV doc pm an cdv ct) ⟨[], ks.zip ws⟩ = pure (ps.zip ws.reverse)
def tCK (sp : Sp) (tk : TA) : TE := fun σ H Q => tk σ H fun zs H1 => sp zs.reverse H1 Q E0
section
variable {X : Cx} {k j : Nat} {x : Str} {ps ks : List Str} {sp : Sp} {p pos : Pos} {kws : List Keyword} {tk : TA} {st : Stmt}
theorem pck (c : Cl X.prog X.w X.K X.mg X.base k x ps sp) (d : DefM X.K X.mg x st) (kb : BiK x st ps ks) (hr : Room j X.A) (hk : k ≤ j) (hg : Gl X x) (hkw : PK X kws tk)
    (hall : (backToKw pos (keywordEach kws X.env)).all (·.1.isSome) = true := by rfl) (hks : (backToKw pos (keywordEach kws X.env)).filterMap (·.1) = ks := by rfl) (hdb : (x == ("__debug__" : Str)) = false := by decide)
    (hpl : ((backTo pos (starEach [] X.env)).any (·.1) || (backToKw pos (keywordEach kws X.env)).any (·.1.isNone)) = false := by rfl) : PE X (.Call (.Name x p) [] kws pos) (tCK sp tk) := by
  obtain ⟨f, fd, F, hm, kp, _, oc0, od0, osl0, lk0⟩ := c.ex
  obtain ⟨f2, fd2, F2, hm2⟩ := d.ex
  obtain rfl : f = f2 := by
    have e := hm.symm.trans hm2
    injection e with e
    injection e
  obtain ⟨oc, od, kV, doc, pm, an, cdv, ct, osl, rfl, lk, _⟩ := F2.ex
  obtain rfl : fd = PySem.W.fnOf x x (defArgs st) (defBody st) (defScope st) .none kV doc pm an cdv ct := by
    have e := lk0.symm.trans lk
    injection e with e
    injection e with _ _ e _
    injection e
  constructor
  intro pins s σ H Q I h
  refine wpAny_Call_Name_kw (ld_glob I hg hm ?_ hdb)
  refine PySem.W.callWith_KW0 (h₀ := X.base) I.ok.mod.kin kp hall (thn (hkw.run pos pins s σ H _ I h) ?_) hpl
  rintro ws s2 ⟨zs, H2, I2, rz, q2⟩
  refine ⟨I2.kIn, ?_⟩
  rw [hks]
  have q3 : sp zs.reverse H2 Q E0 := q2
  have hl : ws.length = ps.length := by
    have := F.len _ _ _ _ q3
    rw [List.length_reverse, rz.length] at this
    exact this
  have hb : BindsTo s2 (PySem.W.fnOf x x (defArgs st) (defBody st) (defScope st) .none kV doc pm an cdv ct) ⟨[], ks.zip ws⟩ (ps.zip ws.reverse) := .of_eq (kb kV doc pm an cdv ct ws hl)
  refine wpAny_call (codeAny_mono (F.run X.A X.stack s2 H2 ⟨[], ks.zip ws⟩ ws.reverse zs.reverse Q E0 (hr.mono hk) I2.env0 hb (vals_rev rz) q3) ?_)
  intro z s3 hz
  match z, hz with
  | .ok (.ret u), hz => exact I2.after hz
  | .error _, hz => exact hz.elim
end
/-! data -/
def tupD (ns : List Int) : PyData := .tuple (ns.map PyData.int)
def optD : Option (List Int) → PyData
  | none => .none
  | some ns => tupD ns
theorem dp_ints {K : PySem.W.Frag} {H : Hp} : ∀ ns : List Int, DpAll K H (ns.map V.int) (ns.map PyData.int)
  | [] => .nil
  | n :: r => .cons (.int n) (dp_ints r)
theorem dp_tup {K : PySem.W.Frag} {H : Hp} {a : Addr} {ns : List Int} (h : SqT K H a (ns.map V.int)) : Dp K H (.ref a) (tupD ns) := .tup h (dp_ints ns)
theorem lay_ints : ∀ ns : List Int, PyData.canLayAll0 (ns.map PyData.int) = true
  | [] => rfl
  | n :: r => by
    show (PyData.canLay0 (.int n) && PyData.canLayAll0 (r.map PyData.int)) = true
    rw [lay_ints r]
    rfl
theorem dep_ints : ∀ ns : List Int, PyData.depthAll (ns.map PyData.int) = 0
  | [] => rfl
  | n :: r => by
    show max 0 (PyData.depthAll (r.map PyData.int)) = 0
    rw [dep_ints r]
    rfl
theorem dep_tup (ns : List Int) : (tupD ns).depth = 1 := by
  show PyData.depthAll (ns.map PyData.int) + 1 = 1
  rw [dep_ints]
theorem shaped_tup (ns : List Int) : SeqAt.shaped (tupD ns) = true := by
  unfold SeqAt.shaped
  rw [dep_tup]
  show (PyData.canLayAll0 (ns.map PyData.int) && decide (1 ≤ 64)) = true
  rw [lay_ints]
  rfl
theorem eqv_ints : ∀ a b : List Int, PyData.eqvAll (a.map PyData.int) (b.map PyData.int) = decide (a = b)
  | [], [] => rfl
  | [], _ :: _ => rfl
  | _ :: _, [] => rfl
  | x :: a, y :: b => by
    show ((x == y) && PyData.eqvAll (a.map PyData.int) (b.map PyData.int)) = decide (x :: a = y :: b)
    rw [eqv_ints a b, Bool.eq_iff_iff]
    simp
theorem eqv_tup (a b : List Int) : PyData.eqv (tupD a) (tupD b) = decide (a = b) := eqv_ints a b
def rowsD (rows : List (List Int)) : PyData := .list (rows.map tupD)
theorem dp_rowsL {K : PySem.W.Frag} {H : Hp} : ∀ {as : List Addr} {rows : List (List Int)}, as.length = rows.length → (∀ (i : Nat) (a : Addr) (r : List Int), as[i]? = some a → rows[i]? = some r → H a = some (.tup (r.map V.int))) → DpAll K H (as.map V.ref) (rows.map tupD)
  | [], [], _, _ => .nil
  | [], _ :: _, h, _ => by cases h
  | _ :: _, [], h, _ => by cases h
  | a :: as, r :: rows, h, hp => .cons (dp_tup (.inl (.inl (hp 0 a r rfl rfl)))) (dp_rowsL (by simpa using h) fun i b s h1 h2 => hp (i + 1) b s (by simpa using h1) (by simpa using h2))
theorem dp_rows {K : PySem.W.Frag} {H : Hp} {l : Addr} {rows : List (List Int)} (h : RowsAt H l rows) : Dp K H (.ref l) (rowsD rows) := by
  obtain ⟨as, e, hl, hp⟩ := h.ex
  exact .lst (.inl (.inl e)) (dp_rowsL hl hp)
theorem lay_rows : ∀ rows : List (List Int), PyData.canLayAll0 (rows.map tupD) = true
  | [] => rfl
  | n :: r => by
    show (PyData.canLayAll0 (n.map PyData.int) && PyData.canLayAll0 (r.map tupD)) = true
    rw [lay_rows r, lay_ints]
    rfl
theorem dep_rows : ∀ rows : List (List Int), PyData.depthAll (rows.map tupD) ≤ 1
  | [] => by decide
  | n :: r => by
    show max (tupD n).depth (PyData.depthAll (r.map tupD)) ≤ 1
    have := dep_rows r
    rw [dep_tup]
    omega
theorem shaped_rows (rows : List (List Int)) : SeqAt.shaped (rowsD rows) = true := by
  unfold SeqAt.shaped
  have h := dep_rows rows
  have e : (rowsD rows).depth = PyData.depthAll (rows.map tupD) + 1 := rfl
  have e2 : (rowsD rows).canLay0 = true := lay_rows rows
  rw [e2, e, decide_eq_true (by omega)]
  rfl
theorem eqv_rows (rows : List (List Int)) : PyData.eqv (rowsD rows) (.list []) = rows.isEmpty := by
  cases rows with
  | nil => rfl
  | cons a r => rfl
/-- data that can be shown -/
structure Nice (d : PyData) (dep wt : Nat) : Prop where
  sh : d.showable = true
  nd : d.hasDict = false
  lv : d.leavesShort 13 = true
  dp : d.depth ≤ dep
  wt : d.weight ≤ wt
theorem nice_none : Nice .none 1 50000 := ⟨rfl, rfl, rfl, by decide, by decide⟩
theorem nice_bool (b : Bool) : Nice (.bool b) 1 50000 := ⟨rfl, rfl, rfl, Nat.zero_le _, Nat.zero_le _⟩
theorem wt_int {i : Int} (h0 : 0 ≤ i) (h1 : i ≤ 1000000) : (PyData.int i).weight ≤ 2000 := by
  have := log_small h0 h1
  show (if (i == 0) = true then 0 else i.natAbs.log2 + 1) ≤ 2000
  split <;> omega
theorem nice_int {i : Int} (h0 : 0 ≤ i) (h1 : i ≤ 1000000) : Nice (.int i) 1 50000 := by
  refine ⟨?_, rfl, ?_, Nat.zero_le _, Nat.le_trans (wt_int h0 h1) (by decide)⟩
  · show decide (i.natAbs.log2 < 1920) = true
    exact decide_eq_true (log_small h0 h1)
  · show decide ((PyData.shown (.int i)).length ≤ 13) = true
    exact decide_eq_true (numT_len h0 h1)
theorem nice_ints : ∀ {ns : List Int}, (∀ x ∈ ns, 0 ≤ x ∧ x ≤ 1000000) → PyData.showableAll (ns.map PyData.int) = true ∧ PyData.hasDictAll (ns.map PyData.int) = false ∧ PyData.leavesShortAll 13 (ns.map PyData.int) = true ∧ PyData.weightAll (ns.map PyData.int) ≤ 2001 * ns.length
  | [], _ => ⟨rfl, rfl, rfl, Nat.zero_le _⟩
  | n :: r, h => by
    obtain ⟨a, b, c, d⟩ := nice_ints (ns := r) fun x hx => h x (List.mem_cons_of_mem n hx)
    have hn := h n List.mem_cons_self
    have q := nice_int hn.1 hn.2
    have w := wt_int hn.1 hn.2
    refine ⟨?_, ?_, ?_, ?_⟩
    · show (PyData.showable (.int n) && PyData.showableAll (r.map PyData.int)) = true
      rw [q.sh, a]
      rfl
    · show (PyData.hasDict (.int n) || PyData.hasDictAll (r.map PyData.int)) = false
      rw [b]
      rfl
    · show (PyData.leavesShort 13 (.int n) && PyData.leavesShortAll 13 (r.map PyData.int)) = true
      rw [q.lv, c]
      rfl
    · show (PyData.int n).weight + 1 + PyData.weightAll (r.map PyData.int) ≤ 2001 * (r.length + 1)
      omega
theorem nice_tup {ns : List Int} (h : ∀ x ∈ ns, 0 ≤ x ∧ x ≤ 1000000) (hl : ns.length ≤ 20) : Nice (tupD ns) 1 50000 := by
  obtain ⟨a, b, c, d⟩ := nice_ints h
  refine ⟨a, b, c, by rw [dep_tup]; exact Nat.le_refl _, ?_⟩
  show PyData.weightAll (ns.map PyData.int) ≤ 50000
  omega
theorem nice_all : ∀ {ds : List PyData}, (∀ d ∈ ds, Nice d 1 50000) → PyData.showableAll ds = true ∧ PyData.hasDictAll ds = false ∧ PyData.leavesShortAll 13 ds = true ∧ PyData.depthAll ds ≤ 1 ∧ PyData.weightAll ds ≤ 50001 * ds.length
  | [], _ => ⟨rfl, rfl, rfl, Nat.zero_le _, Nat.zero_le _⟩
  | n :: r, h => by
    obtain ⟨a, b, c, d, e⟩ := nice_all (ds := r) fun x hx => h x (List.mem_cons_of_mem n hx)
    have q := h n List.mem_cons_self
    have q1 := q.dp
    have q2 := q.wt
    refine ⟨?_, ?_, ?_, ?_, ?_⟩
    · show (PyData.showable n && PyData.showableAll r) = true
      rw [q.sh, a]
      rfl
    · show (PyData.hasDict n || PyData.hasDictAll r) = false
      rw [q.nd, b]
      rfl
    · show (PyData.leavesShort 13 n && PyData.leavesShortAll 13 r) = true
      rw [q.lv, c]
      rfl
    · show max n.depth (PyData.depthAll r) ≤ 1
      omega
    · show n.weight + 1 + PyData.weightAll r ≤ 50001 * (r.length + 1)
      omega
/-- what repr asks of a list of such data -/
theorem repr_facts {ds : List PyData} (hN : ∀ d ∈ ds, Nice d 1 50000) (hl : ds.length ≤ 10) : (PyData.list ds).showable = true ∧ (PyData.list ds).hasDict = false ∧ (PyData.list ds).depth ≤ 20 ∧ (PyData.list ds).shown.length ≤ sizeLine := by
  obtain ⟨n1, n2, n3, n4, n5⟩ := nice_all hN
  refine ⟨n1, n2, ?_, PyData.shown_fits (B := 13) (by decide) (by decide) n3 ?_⟩
  · show PyData.depthAll ds + 1 ≤ 20
    omega
  · have e : (2 : Nat) ^ 20 = 1048576 := by decide
    show PyData.weightAll ds ≤ 2 ^ 20
    omega
theorem nice_opt {o : Option (List Int)} (h : ∀ ns, o = some ns → (∀ x ∈ ns, 0 ≤ x ∧ x ≤ 1000000) ∧ ns.length ≤ 20) : Nice (optD o) 1 50000 := by
  cases o with
  | none => exact nice_none
  | some ns => exact nice_tup (h ns rfl).1 (h ns rfl).2
theorem OptAt.same {H H' : Hp} {v : V} {o : Option (List Int)} (h : OptAt H v o) (s : Same H H') : OptAt H' v o := by
  rcases h with h | ⟨a, ns, h1, h2, h3⟩
  · exact .inl h
  · exact .inr ⟨a, ns, h1, h2, s _ _ h3⟩
theorem OptAt.dp {K : PySem.W.Frag} {H : Hp} {v : V} {o : Option (List Int)} (h : OptAt H v o) : Dp K H v (optD o) := by
  rcases h with ⟨rfl, rfl⟩ | ⟨a, ns, rfl, rfl, h3⟩
  · exact .non
  · exact dp_tup (.inl (.inl h3))
end K68
/-! whether fitting is told right -/
namespace K68
open PySem PySem.Spec PyProof.Rows L2
theorem bik_does_fit_people : BiK "does_fit_people" s_does_fit_people ["poll", "people"] ["people", "poll"] := fun _ _ _ _ _ _ ws hl => match ws, hl with | [_, _], _ => rfl
theorem bik_first_counts : BiK "first_counts" s_first_counts ["poll", "people"] ["people", "poll"] := fun _ _ _ _ _ _ ws hl => match ws, hl with | [_, _], _ => rfl
theorem filter_take {α : Type} (f : α → Bool) {xs : List α} {i : Nat} {x : α} (h : xs[i]? = some x) : (xs.take (i + 1)).filter f = (xs.take i).filter f ++ (if f x = true then [x] else []) := by
  rw [List.take_add_one, h, List.filter_append]
  congr 1
  show List.filter f [x] = _
  rw [List.filter_cons]
  rfl
theorem tried_len (m : Nat) (p : Int) : (tried m p).length = (level p m).length := by
  unfold tried
  rw [List.length_map]
section
variable {P : Program} {w : World} {K : PySem.W.Frag} {mg : Str → Option Value} {base : Heap} {C fi fe pp ps pt gp gs gt : Addr}
theorem PE_weak {X : Cx} {e : Expr} {t t' : TE} (h : PE X e t) (wk : ∀ σ H Q, t' σ H Q → t σ H Q) : PE X e t' := ⟨fun pins s σ H Q I q => h.run pins s σ H Q I (wk σ H Q q)⟩
theorem unit_case {pl : Int} (h0 : 0 ≤ pl) (h1 : pl ≤ 1) : (unitOf pl = 1000 ∧ pl = 1) ∨ (unitOf pl = 100 ∧ pl = 0) := by
  rcases (by omega : pl = 0 ∨ pl = 1) with rfl | rfl
  · exact .inr ⟨rfl, rfl⟩
  · exact .inl ⟨rfl, rfl⟩
/-- 1 if unit == 1000 else 0 -/
def tPlc (i : Nat) : TE := fun σ H Q => ∃ pl : Int, σ[i]? = some (some (.int (unitOf pl))) ∧ 0 ≤ pl ∧ pl ≤ 1 ∧ Q (.int pl) H
theorem pe_plc {X : Cx} {a : Expr} {i : Nat} {j1 j2 j3} {p1 p2 p3 p4 pos : Pos} (ha : PE X a (tVar i)) : PE X (.IfExp (.Compare a [.Eq] [.Constant (.int 1000) j1 p1] p2) (.Constant (.int 1) j2 p3) (.Constant (.int 0) j3 p4) pos) (tPlc i) := by
  refine PE_weak (pe_ifExp (pt_cmpR op_eq ha pe_int (nomark _)) pe_int pe_int) ?_
  rintro σ H Q ⟨pl, hs, l0, l1, q⟩
  refine ⟨_, hs, rfl, _, rfl, ?_⟩
  rcases unit_case l0 l1 with ⟨e1, e2⟩ | ⟨e1, e2⟩
  · rw [e1, decide_eq_true rfl]
    rw [e2] at q
    exact iteT q
  · rw [e1, decide_eq_false (by decide)]
    rw [e2] at q
    exact iteF q
def spFits (K : PySem.W.Frag) : Sp := fun vs H Q _ => ∃ (pl : Int) (t : Addr) (S : List Int) (m : Nat) (p : Int), vs = [.int (unitOf pl), .ref t, .int p] ∧ 0 ≤ pl ∧ pl ≤ 1 ∧ SqT K H t (S.map V.int) ∧ S.length = m + 1 ∧ 1 ≤ m ∧ m ≤ 5 ∧ (∀ x ∈ S, 0 ≤ x ∧ x ≤ unitOf pl) ∧
  0 < p ∧ p ≤ 1000 ∧ (∀ t, t ≤ m → (level p t).length ≤ 10000) ∧ ∀ H', Same H H' → Q (.bl true) H'
theorem c_fits (T : Tx K mg C fi fe pp ps pt gp gs gt) : ClG P w K mg base 8 "_law_fits_right" ["_law_unit", "_law_shares_here", "_law_people"] (spFits K) := by
  refine clG_of T.d__law_fits_right sc__law_fits_right bi__law_fits_right (fun vs H Q E h => ?_) (fun f cdv A outer s H vs Q E hr hgd h => ?_)
  · obtain ⟨pl, t, S, m, p, rfl, _⟩ := h
    rfl
  · obtain ⟨pl, t, S, m, p, rfl, l0, l1, hT, hSl, m1, m5, hS, p0, p1, hB, q⟩ := h
    obtain ⟨fd, FI, bI⟩ := fn_init (P := P) (w := w) (base := base) T
    have hu := hr.units
    refine ⟨_, pss_cons (ps_set (i := 3) sc__law_fits_right.nd rfl (.inl rfl) (pe_make T.made FI (hr.mono (by decide)) (by rfl) T.poll bI .nil pass0 (pa_cons (pe_plc (pv 0)) (pa_cons (pv 1) pa_nil))))
      (pss_cons (ps_setLc (i := 4) (own := [("_law_own", 7)]) (g := gName 7) (by rfl) sc__law_fits_right.nd rfl rfl (sw_true rfl rfl rfl (by decide +kernel)) (pi_list (pc (c_tried T) hr (by decide) (by rfl) (pa_cons (pe_callB call_len_seq (by rfl) T.b_len PySem.boot_len (pa_cons (pv 1) pa_nil)) (pa_cons (pv 2) pa_nil))))
        (blkOk_by (N := n__law_fits_right) (sc := defScope s__law_fits_right) (by decide +kernel)) (fun _ _ _ _ _ => pg_name (i := 7) sc__law_fits_right.nd rfl (Or.inl rfl))
        (fun _ _ _ _ _ => pts_one (pt_cmpR (r := rEqD K) (op_eqD hu) (pc (c_shares_of T) hr (by decide) (by rfl) (pa_cons (pv 0) (pa_cons (pv 7) pa_nil))) (pv 1) (nomark _))) (fun _ _ _ _ _ => pv 7))
      (pss_cons (ps_set (i := 5) sc__law_fits_right.nd rfl (.inl rfl) (pe_ifExp (pt_cmpR (op_neD hu) (pv 4) (pe_lst pa_nil) (nomark _)) (pe_ix ix_list (pv 4) pe_int (fun _ _ => rfl)) pe_non))
      (pss_cons (ps_set (i := 6) sc__law_fits_right.nd rfl (.inl rfl) (pe_lst (pa_cons (pc (c_does_fit_people T) hr (by decide) (by rfl) (pa_cons (pv 3) (pa_cons (pv 2) pa_nil))) (pa_cons (pck (c_does_fit_people T) T.d_does_fit_people bik_does_fit_people hr (by decide) (by rfl) (pk_cons (pv 2) (pk_cons (pv 3) pk_nil))) pa_nil))))
      (pss_cons (ps_set (i := 6) sc__law_fits_right.nd rfl (.inl rfl) (pe_op op_cat (pv 6) (pe_lst (pa_cons (pc (c_first_counts T) hr (by decide) (by rfl) (pa_cons (pv 3) (pa_cons (pv 2) pa_nil))) (pa_cons (pck (c_first_counts T) T.d_first_counts bik_first_counts hr (by decide) (by rfl) (pk_cons (pv 2) (pk_cons (pv 3) pk_nil))) pa_nil)))))
      (pss_one (ps_ret (pe_cmpR op_eq (pe_callB (call_repr hgd hu) (by rfl) T.b_repr (by decide +kernel) (pa_cons (pv 6) pa_nil))
        (pe_callB (call_repr hgd hu) (by rfl) T.b_repr (by decide +kernel) (pa_cons (pe_lst (pa_cons (pe_cmpR (op_neD hu) (pv 4) (pe_lst pa_nil) (nomark _)) (pa_cons (pe_cmpR (op_neD hu) (pv 4) (pe_lst pa_nil) (nomark _)) (pa_cons (pv 5) (pa_cons (pv 5) pa_nil))))) pa_nil)) (nomark _)))))))), ?_⟩
    have hup := unit_pos pl
    have hS1 : ∀ x ∈ S, 0 ≤ x ∧ x ≤ 1000 := fun x hx => ⟨(hS x hx).1, Int.le_trans (hS x hx).2 hup.2⟩
    -- mine
    refine ⟨pl, rfl, l0, l1, _, rfl, fun x dx nx ndx nex => ?_⟩
    have sx : Same H (upd (upd H dx (.own x)) x (.ins C dx [])) := fun b o e => by
      rw [upd_ne (ne_of_none e nx), upd_ne (ne_of_none e ndx)]
      exact e
    refine ⟨x, dx, pl, t, S, rfl, upd_same, same_tup sx hT, l0, l1, by omega, by omega, hS, fun H1 k1 e1 => ⟨rfl, ?_⟩⟩
    have s1 : Same H H1 := fun b o e => k1 b o (ne_of_none e nx) (sx b o e)
    have hP : PollAt K C H1 x pl S := ⟨dx, t, e1, same_tup s1 hT⟩
    have hA : PollArg K C H1 x pl p S := ⟨hP, l0, l1, hS1, by omega, p0⟩
    have hT1 := same_tup s1 hT
    clear k1 e1 sx
    -- due
    refine ⟨_, rfl, t, _, rfl, .inr hT1, _, rfl, m, p, ?_, by omega, by omega, p1, hB, fun H2 l s2 nl hR => ?_⟩
    · show [V.int ((S.map V.int).length : Int), V.int p] = [V.int ((m : Int) + 1), V.int p]
      rw [List.length_map, hSl]
      rfl
    obtain ⟨as, el, hal, hap⟩ := hR.ex
    have hT2 := same_tup s2 hT1
    have htl : (tried m p).length ≤ 10000 := by
      rw [tried_len]
      exact hB m (Nat.le_refl _)
    refine ⟨l, rfl, ⟨_, .inl (.inl el)⟩, fun D nD => ?_⟩
    refine lc_list (K := K) (a := l) (xs := as.map V.ref) (fun i H' => Same H2 H' ∧ RowsAt H' D (((tried m p).take i).filter fun r => decide (sharesOf (unitOf pl) r.sum r = S))) ⟨same_upd nD, RowsAt.nil upd_same⟩ (fun i H' _ ⟨sm, _⟩ => .inl (.inl (sm _ _ el))) ?_ ?_
    · rintro i x2 H3 hx ⟨s3, hR3⟩
      obtain ⟨a, ha, rfl⟩ := ref_at hx
      have hi : i < (tried m p).length := by
        have := (List.getElem?_eq_some_iff.mp ha).1
        omega
      have ho : (tried m p)[i]? = some ((tried m p)[i]) := List.getElem?_eq_getElem hi
      have hTa := hap i a _ ha ho
      obtain ⟨r1, r2, r3⟩ := own_tried (by omega) (List.getElem_mem hi)
      have hft := filter_take (fun r => decide (sharesOf (unitOf pl) r.sum r = S)) ho
      generalize (tried m p)[i] = r at *
      refine ⟨rfl, ?_⟩
      refine ⟨_, rfl, _, rfl, unitOf pl, a, r, rfl, .inl (.inl (s3 _ _ hTa)), by omega, hup.1, hup.2, by omega, in200 (by omega), fun H4 q4 s4 nq4 eq4 => ?_⟩
      refine ⟨_, rfl, tupD (sharesOf (unitOf pl) r.sum r), tupD S, dp_tup (.inl (.inl eq4)), dp_tup (same_tup s4 (same_tup s3 hT2)), shaped_tup _, shaped_tup _, _, rfl, ?_⟩
      rw [eqv_tup]
      have hR4 := hR3.same s4
      obtain ⟨bs, eD, hbl, hbp⟩ := hR4.ex
      by_cases hc : sharesOf (unitOf pl) r.sum r = S
      · rw [decide_eq_true hc] at hft ⊢
        refine iteT ⟨_, rfl, _, eD, ?_, ?_, ?_⟩
        · rw [List.length_map, hbl]
          have h1 := List.length_filter_le (fun r => decide (sharesOf (unitOf pl) r.sum r = S)) ((tried m p).take i)
          rw [List.length_take] at h1
          exact lt_line (m := 10000) (by omega) (by omega)
        · intro b o e
          rw [upd_ne (ne_of_none e nD)]
          exact s4 _ _ (s3 _ _ e)
        · rw [hft, if_pos rfl]
          exact RowsAt.app eD hbl hbp (s4 _ _ (s3 _ _ hTa))
      · rw [decide_eq_false hc] at hft ⊢
        refine iteF ⟨s3.trans s4, ?_⟩
        rw [hft, if_neg Bool.false_ne_true, List.append_nil]
        exact hR4
    rintro H3 ⟨s3, hR3⟩
    rw [List.length_map, hal, List.take_length] at hR3
    have hdue : ((tried m p).filter fun r => decide (sharesOf (unitOf pl) r.sum r = S)) = due (unitOf pl) p S m := rfl
    rw [hdue] at hR3
    have hS0 : ∀ s ∈ S, 0 ≤ s := fun s hs => (hS s hs).1
    have hhead := due_head (u := unitOf pl) (p := p) (n := m) hup.1 p0 hS0 hSl
    have hempty := due_empty (u := unitOf pl) (p := p) (n := m) hup.1 p0 hS0 hSl
    have hfirst : ∀ cs, firstOf (unitOf pl) p S = some cs → (∀ x ∈ cs, 0 ≤ x ∧ x ≤ 1000000) ∧ cs.length ≤ 20 := by
      intro cs hcs
      rw [hcs] at hhead
      have hm := List.mem_of_head? hhead
      unfold due at hm
      rw [List.mem_filter] at hm
      obtain ⟨g1, g2, g3⟩ := own_tried (by omega) hm.1
      refine ⟨fun x hx => ⟨g3 x hx, ?_⟩, by omega⟩
      have := mem_le_sum g3 hx
      omega
    generalize due (unitOf pl) p S m = rows at *
    have s13 : Same H H3 := s1.trans (s2.trans s3)
    have hA3 : PollArg K C H3 x pl p S := hA.same (s2.trans s3)
    -- first
    suffices rest : ∀ (v : V) (H4 : Hp), Same H3 H4 → OptAt H4 v (firstOf (unitOf pl) p S) → tSeq _ _ _ (((((start n__law_fits_right [.int (unitOf pl), .ref t, .int p]).set 3 (some (.ref x))).set 4 (some (.ref D))).set 5 (some v))) H4 from by
      refine ⟨_, rfl, Nat.zero_le _, fun z nz => ?_⟩
      have sz := same_upd (o := .lst []) nz
      have ez : (upd H3 z (.lst [])) z = some (.lst []) := upd_same
      generalize upd H3 z (.lst []) = H4 at *
      have hR4 := hR3.same sz
      refine ⟨rowsD rows, .list [], dp_rows hR4, .lst (.inl (.inl ez)) .nil, shaped_rows _, rfl, _, rfl, ?_⟩
      rw [eqv_rows]
      cases rows with
      | nil => exact iteF (rest .non H4 sz (.inl ⟨hhead.symm, rfl⟩))
      | cons r0 rr =>
        obtain ⟨bs, eD, hbl, hbp⟩ := hR4.ex
        have hb0 : 0 < bs.length := by
          rw [hbl]
          exact Nat.succ_pos _
        have eb : bs[0]? = some bs[0] := List.getElem?_eq_getElem hb0
        refine iteT ⟨_, rfl, D, _, ((0 : Nat) : Int), .ref bs[0], rfl, rfl, .inl (.inl eD), atI_nat (by rw [List.getElem?_map, eb]; rfl), ?_⟩
        exact rest _ H4 sz (.inr ⟨bs[0], r0, hhead.symm, rfl, hbp 0 _ _ eb rfl⟩)
    intro v H4 s4 hO
    have hA4 := hA3.same s4
    -- told
    refine ⟨_, rfl, _, rfl, x, p, pl, S, rfl, hA4, fun H5 s5 => ?_⟩
    refine ⟨_, rfl, _, rfl, x, p, pl, S, rfl, hA4.same s5, fun H6 s6 => ⟨(by show 2 ≤ sizeLine; decide), fun b nb => ?_⟩⟩
    have hne : (!rows.isEmpty) = fitB (ends (unitOf pl) p S) p := by
      rw [hempty, Bool.not_not]
    generalize fitB (ends (unitOf pl) p S) p = fit at *
    have sb := same_upd (o := .lst [V.bl fit, V.bl fit]) nb
    have eb : (upd H6 b (.lst [V.bl fit, V.bl fit])) b = some (.lst [V.bl fit, V.bl fit]) := upd_same
    generalize upd H6 b (.lst [V.bl fit, V.bl fit]) = H7 at *
    have s47 := s5.trans (s6.trans sb)
    have hA7 := hA4.same s47
    refine ⟨_, rfl, _, rfl, _, rfl, x, p, pl, S, rfl, hA7, fun H8 v1 s8 o1 => ?_⟩
    refine ⟨_, rfl, _, rfl, x, p, pl, S, rfl, hA7.same s8, fun H9 v2 s9 o2 => ⟨(by show 2 ≤ sizeLine; decide), fun c nc => ?_⟩⟩
    have eb9 := s9 _ _ (s8 _ _ eb)
    have sc := same_upd (o := .lst [v1, v2]) nc
    have ec : (upd H9 c (.lst [v1, v2])) c = some (.lst [v1, v2]) := upd_same
    generalize upd H9 c (.lst [v1, v2]) = H10 at *
    refine ⟨b, c, _, _, rfl, rfl, sc _ _ eb9, ec, (by show 4 ≤ sizeLine; decide), fun d nd => ?_⟩
    have sd := same_upd (o := .lst ([V.bl fit, V.bl fit] ++ [v1, v2])) nd
    have ed : (upd H10 d (.lst ([V.bl fit, V.bl fit] ++ [v1, v2]))) d = some (.lst [V.bl fit, V.bl fit, v1, v2]) := upd_same
    generalize upd H10 d (.lst ([V.bl fit, V.bl fit] ++ [v1, v2])) = H11 at *
    have o1' := o1.same (s9.trans (sc.trans sd))
    have o2' := o2.same (sc.trans sd)
    have hNo := nice_opt hfirst
    have hN : ∀ z ∈ [PyData.bool fit, PyData.bool fit, optD (firstOf (unitOf pl) p S), optD (firstOf (unitOf pl) p S)], Nice z 1 50000 := fun z hz => by
      simp only [List.mem_cons, List.not_mem_nil, or_false] at hz
      rcases hz with rfl | rfl | rfl | rfl
      · exact nice_bool _
      · exact nice_bool _
      · exact hNo
      · exact hNo
    obtain ⟨f1, f2, f3, f4⟩ := repr_facts hN (by show 4 ≤ 10; decide)
    refine ⟨_, rfl, d, _, rfl, .lst (.inl (.inl ed)) (.cons (.bl fit) (.cons (.bl fit) (.cons o1'.dp (.cons o2'.dp .nil)))), f1, f2, f3, f4, ?_⟩
    have s411 := s47.trans (s8.trans (s9.trans (sc.trans sd)))
    have hR11 := hR3.same (s4.trans s411)
    have hO11 := hO.same s411
    refine ⟨_, rfl, Nat.zero_le _, fun z1 n1 => ?_⟩
    have sz1 := same_upd (o := .lst []) n1
    have ez1 : (upd H11 z1 (.lst [])) z1 = some (.lst []) := upd_same
    generalize upd H11 z1 (.lst []) = H12 at *
    have hR12 := hR11.same sz1
    refine ⟨rowsD rows, .list [], dp_rows hR12, .lst (.inl (.inl ez1)) .nil, shaped_rows _, rfl, ?_⟩
    rw [eqv_rows, hne]
    refine ⟨_, rfl, Nat.zero_le _, fun z2 n2 => ?_⟩
    have sz2 := same_upd (o := .lst []) n2
    have ez2 : (upd H12 z2 (.lst [])) z2 = some (.lst []) := upd_same
    generalize upd H12 z2 (.lst []) = H13 at *
    have hR13 := hR12.same sz2
    refine ⟨rowsD rows, .list [], dp_rows hR13, .lst (.inl (.inl ez2)) .nil, shaped_rows _, rfl, ?_⟩
    rw [eqv_rows, hne]
    refine ⟨_, rfl, _, rfl, (by show 4 ≤ sizeLine; decide), fun e ne => ?_⟩
    have se := same_upd (o := .lst [V.bl fit, V.bl fit, v, v]) ne
    have ee : (upd H13 e (.lst [V.bl fit, V.bl fit, v, v])) e = some (.lst [V.bl fit, V.bl fit, v, v]) := upd_same
    generalize upd H13 e (.lst [V.bl fit, V.bl fit, v, v]) = H14 at *
    have hO14 := hO11.same (sz1.trans (sz2.trans se))
    refine ⟨e, _, rfl, .lst (.inl (.inl ee)) (.cons (.bl fit) (.cons (.bl fit) (.cons hO14.dp (.cons hO14.dp .nil)))), f1, f2, f3, f4, rfl, ?_⟩
    exact (qT (p := V.str (PyData.list [PyData.bool fit, PyData.bool fit, optD (firstOf (unitOf pl) p S), optD (firstOf (unitOf pl) p S)]).shown = V.str (PyData.list [PyData.bool fit, PyData.bool fit, optD (firstOf (unitOf pl) p S), optD (firstOf (unitOf pl) p S)]).shown) rfl (q H14 (s13.trans (s4.trans (s411.trans (sz1.trans (sz2.trans se)))))) :)
end
end K68
/-! whether the poll of counts is told right -/
namespace K68
open PySem PySem.Spec PyProof.Rows L2
theorem bik_poll_of : BiK "poll_of" s_poll_of ["counts", "places"] ["places", "counts"] := fun _ _ _ _ _ _ ws hl => match ws, hl with | [_, _], _ => rfl
theorem PollAt.keep {K : PySem.W.Frag} {C W : Addr} {H H' : Hp} {p : Addr} {pl : Int} {ns : List Int} (h : PollAt K C H p pl ns) (k : Keep W H H') (w : Wl H W) : PollAt K C H' p pl ns := by
  obtain ⟨dx, t, e, hT⟩ := h.ex
  refine ⟨dx, t, k _ _ ?_ e, k.tup w hT⟩
  rintro rfl
  obtain ⟨_, _, _, _, _, _, e2⟩ := w
  rw [e] at e2
  cases e2
section
variable {P : Program} {w : World} {K : PySem.W.Frag} {mg : Str → Option Value} {base : Heap} {C fi fe pp ps pt gp gs gt : Addr}
def spPollR : Sp := fun vs H Q _ => ∃ (W : Addr) (pl : Int) (m : Nat), vs = [.ref W, .int (unitOf pl), .int ((m : Int) + 1)] ∧ 0 ≤ pl ∧ pl ≤ 1 ∧ 1 ≤ m ∧ m ≤ 5 ∧ Wl H W ∧ ∀ H', Keep W H H' → Wl H' W → Q (.bl true) H'
theorem same_text {K : PySem.W.Frag} {C : Addr} {H : Hp} {a b : Addr} {pl : Int} {S : List Int} (ha : PollAt K C H a pl S) (hb : PollAt K C H b pl S) : DIns C (SameT C) (.ref a) (.ref b) H := by
  obtain ⟨dx, t, e, _⟩ := ha.ex
  obtain ⟨dy, t2, e2, _⟩ := hb.ex
  exact ⟨a, b, dx, dy, _, _, rfl, rfl, e, e2, dx, dy, _, _, _, e, e2, pfl_text _ _ _, pfl_text _ _ _⟩
theorem c_pollR (T : Tx K mg C fi fe pp ps pt gp gs gt) : ClG P w K mg base 8 "_law_poll_right" ["_law_well_here", "_law_unit", "_law_many"] spPollR := by
  refine clG_of T.d__law_poll_right sc__law_poll_right bi__law_poll_right (fun vs H Q E h => ?_) (fun f cdv A outer s H vs Q E hr hgd h => ?_)
  · obtain ⟨W, pl, m, rfl, _⟩ := h
    rfl
  · obtain ⟨W, pl, m, rfl, l0, l1, m1, m5, hW, q⟩ := h
    obtain ⟨fd, FI, bI⟩ := fn_init (P := P) (w := w) (base := base) T
    obtain ⟨fp, FP, bP⟩ := fn_places (P := P) (w := w) (base := base) T
    obtain ⟨fs, FS, bS⟩ := fn_shares (P := P) (w := w) (base := base) T
    obtain ⟨ft, FT, bT⟩ := fn_text (P := P) (w := w) (base := base) T
    obtain ⟨fq, FQ, bQ⟩ := fn_eq (P := P) (w := w) (base := base) T
    have hu := hr.units
    have hr2 : Room 2 (A.deeper (envOfC "_law_poll_right" (defScope s__law_poll_right) s.heap.objs.size f cdv)) := hr.mono (by decide)
    have hr1 : Room 1 (A.deeper (envOfC "_law_poll_right" (defScope s__law_poll_right) s.heap.objs.size f cdv)) := hr.mono (by decide)
    refine ⟨_, pss_cons (ps_par (i := 3) (j := 4) (by rfl) sc__law_poll_right.nd rfl rfl (by decide) rfl rfl (pa_cons (pc (c_counts T) hr (by decide) (by rfl) (pa_cons (pv 0) (pa_cons (pv 1) (pa_cons (pv 2) pa_nil)))) (pa_cons (pe_plc (pv 1)) pa_nil)) (by rfl))
      (pss_cons (ps_par (i := 5) (j := 6) (by rfl) sc__law_poll_right.nd rfl rfl (by decide) rfl rfl (pa_cons (pc (c_poll_of T) hr (by decide) (by rfl) (pa_cons (pv 3) (pa_cons (pv 4) pa_nil))) (pa_cons (pc (c_shares_of T) hr (by decide) (by rfl) (pa_cons (pv 1) (pa_cons (pv 3) pa_nil))) pa_nil)) (by rfl))
      (pss_cons (ps_set (i := 7) sc__law_poll_right.nd rfl (.inl rfl) (pck (c_poll_of T) T.d_poll_of bik_poll_of hr (by decide) (by rfl) (pk_cons (pv 4) (pk_cons (pv 3) pk_nil))))
      (pss_cons (ps_if (PW.pt (pw_or (pt_not (pt_val (pe_callB (C8.call_isC T.isC) (by rfl) T.b_isinstance (by decide +kernel) (pa_cons (pv 5) (pa_cons (pe_glob (v := .ref C) (by rfl) T.poll rfl) pa_nil)))))
        (pw_or1 (pt_cmpR op_ne (pe_callB (call_repr hgd hu) (by rfl) T.b_repr (by decide +kernel) (pa_cons (pe_lst (pa_cons (pe_prop (pv 5) T.cl T.places FP hr2 bP .nil pass0 (by rfl)) (pa_cons (pe_prop (pv 5) T.cl T.shares FS hr2 bS .nil pass0 (by rfl)) pa_nil))) pa_nil))
          (pe_callB (call_repr hgd hu) (by rfl) T.b_repr (by decide +kernel) (pa_cons (pe_lst (pa_cons (pv 4) (pa_cons (pv 6) pa_nil))) pa_nil)) (nomark _))))) (pss_one (ps_ret pe_bl)) pss_nil)
      (pss_one (ps_ret (pe_and (pe_cmpR (op_eqG (rcG_ins FQ T.eqAt T.eqFn bQ pass0) hr1) (pv 5) (pv 7) (nomark _)) (pe_and (pe_cmpR (op_eqG (rcG_ins FQ T.eqAt T.eqFn bQ pass0) hr1) (pv 7) (pe_make T.made FI (hr.mono (by decide)) (by rfl) T.poll bI .nil pass0 (pa_cons (pv 4) (pa_cons (pv 6) pa_nil))) (nomark _))
        (pe_one (pe_cmpR op_eq (pe_prop (pv 5) T.cl T.text FT hr2 bT .nil pass0 (by rfl)) (pe_prop (pv 7) T.cl T.text FT hr2 bT .nil pass0 (by rfl)) (nomark _)))))))))), ?_⟩
    have hup := unit_pos pl
    have hu10 : 10 ≤ unitOf pl := by
      unfold unitOf
      split <;> omega
    refine ⟨_, rfl, _, rfl, _, rfl, W, unitOf pl, m, rfl, m1, m5, hu10, hup.2, hW, fun H1 t cs hcl hc0 p0 p2 k1 w1 et => ?_⟩
    refine ⟨pl, rfl, l0, l1, _, _, rfl, ?_⟩
    refine ⟨_, rfl, _, rfl, t, pl, cs, rfl, .inl (.inl et), l0, l1, by omega, by omega, hc0, p0, p2, fun H2 p s2 hP => ?_⟩
    have et2 := s2 _ _ et
    refine ⟨_, rfl, _, rfl, unitOf pl, t, cs, rfl, .inl (.inl et2), by omega, hup.1, hup.2, p0, p2, fun H3 d s3 nd ed => ⟨_, _, rfl, ?_⟩⟩
    have hP3 := hP.same s3
    have et3 := s3 _ _ et2
    have hSl : (sharesOf (unitOf pl) cs.sum cs).length = m + 1 := by
      unfold sharesOf
      rw [List.length_map, hcl]
    have hS0 := shares_ok (u := unitOf pl) (p := cs.sum) hup.1 p0 hc0 rfl
    refine ⟨_, rfl, _, rfl, t, pl, cs, rfl, .inl (.inl et3), l0, l1, by omega, by omega, hc0, p0, p2, fun H4 p2 s4 hP4 => ?_⟩
    generalize sharesOf (unitOf pl) cs.sum cs = S at *
    have hPf := hP3.same s4
    have ed4 := s4 _ _ ed
    obtain ⟨dx, tf, ef, hTf⟩ := id hPf.ex
    refine ⟨_, rfl, p, dx, _, rfl, ef, true, rfl, iteF ?_⟩
    refine ⟨_, rfl, p, dx, _, rfl, ef, p, dx, _, _, rfl, ef, pfl_places _ _ _, _, rfl, p, dx, _, rfl, ef, p, dx, _, _, rfl, ef, pfl_shares _ _ _, (by show 2 ≤ sizeLine; decide), fun e ne => ?_⟩
    have se := same_upd (o := .lst [V.int pl, V.ref tf]) ne
    have ee : (upd H4 e (.lst [V.int pl, V.ref tf])) e = some (.lst [V.int pl, V.ref tf]) := upd_same
    generalize upd H4 e (.lst [V.int pl, V.ref tf]) = H5 at *
    have hN : ∀ z ∈ [PyData.int pl, tupD S], Nice z 1 50000 := fun z hz => by
      simp only [List.mem_cons, List.not_mem_nil, or_false] at hz
      rcases hz with rfl | rfl
      · exact nice_int l0 (by omega)
      · exact nice_tup (fun x hx => ⟨(hS0 x hx).1, by have := (hS0 x hx).2; omega⟩) (by omega)
    obtain ⟨f1, f2, f3, f4⟩ := repr_facts hN (by show 2 ≤ 10; decide)
    refine ⟨e, _, rfl, .lst (.inl (.inl ee)) (.cons (.int pl) (.cons (dp_tup (same_tup se hTf)) .nil)), f1, f2, f3, f4, ?_⟩
    refine ⟨_, rfl, _, rfl, (by show 2 ≤ sizeLine; decide), fun g ng => ?_⟩
    have sg := same_upd (o := .lst [V.int pl, V.ref d]) ng
    have eg : (upd H5 g (.lst [V.int pl, V.ref d])) g = some (.lst [V.int pl, V.ref d]) := upd_same
    generalize upd H5 g (.lst [V.int pl, V.ref d]) = H6 at *
    have ed6 := sg _ _ (se _ _ ed4)
    refine ⟨g, _, rfl, .lst (.inl (.inl eg)) (.cons (.int pl) (.cons (dp_tup (.inl (.inl ed6))) .nil)), f1, f2, f3, f4, rfl, _, rfl, ?_⟩
    refine iteNS rfl ?_
    have s46 := se.trans sg
    have hPf6 := hPf.same s46
    have hPm6 := hP4.same s46
    refine ⟨_, rfl, _, rfl, same_text hPf6 hPm6, fun H7 s7 => ⟨true, rfl, iteT ?_⟩⟩
    have ed7 := s7 _ _ ed6
    refine ⟨_, rfl, _, rfl, _, rfl, fun x dz nx ndz nez => ?_⟩
    have sx : Same H7 (upd (upd H7 dz (.own x)) x (.ins C dz [])) := fun b o e => by
      rw [upd_ne (ne_of_none e nx), upd_ne (ne_of_none e ndz)]
      exact e
    refine ⟨x, dz, pl, d, S, rfl, upd_same, .inl (.inl (sx _ _ ed7)), l0, l1, by omega, by omega, hS0, fun H8 k8 e8 => ⟨rfl, ?_⟩⟩
    have s8 : Same H7 H8 := fun b o e => k8 b o (ne_of_none e nx) (sx b o e)
    have hPx : PollAt K C H8 x pl S := ⟨dz, d, e8, .inl (.inl (s8 _ _ ed7))⟩
    have hPf8 := hPf6.same (Same.trans s7 s8)
    have hPm8 := hPm6.same (Same.trans s7 s8)
    refine ⟨same_text hPm8 hPx, fun H9 s9 => ⟨true, rfl, iteT ?_⟩⟩
    obtain ⟨da, ta, ea, _⟩ := (hPf8.same s9).ex
    obtain ⟨db, tb, eb, _⟩ := (hPm8.same s9).ex
    refine ⟨_, rfl, p, da, _, rfl, ea, p, da, _, _, rfl, ea, pfl_text _ _ _, _, rfl, p2, db, _, rfl, eb, p2, db, _, _, rfl, eb, pfl_text _ _ _, rfl, ?_⟩
    have sall : Same H1 H9 := s2.trans (s3.trans (s4.trans (s46.trans (Same.trans s7 (Same.trans s8 s9)))))
    exact (qT (p := V.str (pollT pl S) = V.str (pollT pl S)) rfl (q H9 (k1.trans (Keep.of_same sall)) (w1.same sall)) :)
end
end K68
/-! whether the counts with a share are told right -/
namespace K68
open PySem PySem.Spec PyProof.Rows L2
theorem bik_count_stretch : BiK "count_stretch" s_count_stretch ["share", "people", "places"] ["places", "people", "share"] := fun _ _ _ _ _ _ ws hl => match ws, hl with | [_, _, _], _ => rfl
def intsD (ns : List Int) : PyData := .list (ns.map PyData.int)
theorem shaped_ints (ns : List Int) : SeqAt.shaped (intsD ns) = true := shaped_tup ns
theorem eqv_ints0 (ns : List Int) : PyData.eqv (intsD ns) (.list []) = ns.isEmpty := by
  cases ns with
  | nil => rfl
  | cons a r => rfl
/-- the ends of a list as a pair -/
def endsOf (ns : List Int) : Option (List Int) := match ns.head?, ns.getLast? with
  | some a, some b => some [a, b]
  | _, _ => none
theorem stretch_ends {u p s : Int} (hu : 0 < u) (hp : 0 < p) (hs : 0 ≤ s) : (stretch u p s).map (fun x => [x.1, x.2]) = endsOf (owns u p s (p + 1).toNat) := by
  rw [owns_stretch hu hp hs]
  unfold endsOf
  cases (owns u p s (p + 1).toNat).head? with
  | none => rfl
  | some a =>
    cases (owns u p s (p + 1).toNat).getLast? with
    | none => rfl
    | some b => rfl
theorem stretch_small {u p s : Int} (hu : 0 < u) (hp : 0 < p) (p1 : p ≤ 1000000) : ∀ ns, (stretch u p s).map (fun x => [x.1, x.2]) = some ns → (∀ x ∈ ns, 0 ≤ x ∧ x ≤ 1000000) ∧ ns.length ≤ 20 := by
  intro ns h
  unfold stretch at h
  by_cases c : s ≤ u ∧ lo s p u ≤ hi s p u
  · rw [if_pos c] at h
    have e := Option.some.inj h
    rw [← e]
    have h1 := lo_nn (s := s) hu hp
    have h2 : hi s p u ≤ p := hi_le
    refine ⟨fun x hx => ?_, (by show 2 ≤ 20; decide)⟩
    simp only [List.mem_cons, List.not_mem_nil, or_false] at hx
    omega
  · rw [if_neg c] at h
    cases h
section
variable {P : Program} {w : World} {K : PySem.W.Frag} {mg : Str → Option Value} {base : Heap} {C fi fe pp ps pt gp gs gt : Addr}
def spStrR : Sp := fun vs H Q _ => ∃ (W : Addr) (pl : Int), vs = [.ref W, .int (unitOf pl)] ∧ 0 ≤ pl ∧ pl ≤ 1 ∧ Wl H W ∧ ∀ H', Keep W H H' → Wl H' W → Q (.bl true) H'
theorem c_strR (T : Tx K mg C fi fe pp ps pt gp gs gt) : ClG P w K mg base 6 "_law_stretch_right" ["_law_well_here", "_law_unit"] spStrR := by
  refine clG_of T.d__law_stretch_right sc__law_stretch_right bi__law_stretch_right (fun vs H Q E h => ?_) (fun f cdv A outer s H vs Q E hr hgd h => ?_)
  · obtain ⟨W, pl, rfl, _⟩ := h
    rfl
  · obtain ⟨W, pl, rfl, l0, l1, hW, q⟩ := h
    have hu := hr.units
    refine ⟨_, pss_cons (ps_set (i := 2) sc__law_stretch_right.nd rfl (.inr rfl) (pe_ifExp (pt_cmpR op_eq (pc (c_draw T) hr (by decide) (by rfl) (pa_cons (pv 0) (pa_cons pe_int pa_nil))) pe_int (nomark _))
        (pe_op op_sub pe_int (pc (c_draw T) hr (by decide) (by rfl) (pa_cons (pv 0) (pa_cons pe_int pa_nil)))) (pe_op op_add pe_int (pc (c_draw T) hr (by decide) (by rfl) (pa_cons (pv 0) (pa_cons pe_int pa_nil))))))
      (pss_cons (ps_set (i := 3) sc__law_stretch_right.nd rfl (.inr rfl) (pc (c_near T) hr (by decide) (by rfl) (pa_cons (pv 1) (pa_cons (pc (c_draw T) hr (by decide) (by rfl) (pa_cons (pv 0) (pa_cons (pe_op op_add (pv 2) pe_int) pa_nil))) (pa_cons (pv 2) pa_nil)))))
      (pss_cons (ps_set (i := 3) sc__law_stretch_right.nd rfl (.inr rfl) (pe_ix ix_list (pe_lst (pa_cons (pv 3) (pa_cons (pv 3) (pa_cons (pe_op op_add (pv 3) pe_int) (pa_cons (pe_callB (call_max2 rfl) (by rfl) T.b_max (by decide +kernel) (pa_cons pe_int (pa_cons (pe_op op_sub (pv 3) pe_int) pa_nil)))
          (pa_cons (pc (c_draw T) hr (by decide) (by rfl) (pa_cons (pv 0) (pa_cons pe_int pa_nil))) pa_nil)))))) (pc (c_draw T) hr (by decide) (by rfl) (pa_cons (pv 0) (pa_cons pe_int pa_nil))) (fun _ _ => rfl)))
      (pss_cons (ps_asg (pe_tup (pa_cons (pe_callB (call_min2 rfl) (by rfl) T.b_min (by decide +kernel) (pa_cons (pv 3) (pa_cons pe_int pa_nil))) (pa_cons (pe_plc (pv 1)) pa_nil)))
        (pg_tup rfl (pgs_cons (pg_name (i := 3) sc__law_stretch_right.nd rfl (.inr rfl)) (pgs_cons (pg_name (i := 4) sc__law_stretch_right.nd rfl (.inl rfl)) pgs_nil))))
      (pss_cons (ps_setLc (i := 5) (own := [("_law_one", 8)]) (g := gName 8) (by rfl) sc__law_stretch_right.nd rfl rfl (sw_true rfl rfl rfl (by decide +kernel)) (pi_range1 (by rfl) T.b_range (pa_cons (pe_op op_add (pv 2) pe_int) pa_nil))
        (blkOk_by (N := n__law_stretch_right) (sc := defScope s__law_stretch_right) (by decide +kernel)) (fun _ _ _ _ _ => pg_name (i := 8) sc__law_stretch_right.nd rfl (Or.inl rfl))
        (fun _ _ _ _ _ => pts_one (pt_cmpR op_eq (pc (c_near T) hr (by decide) (by rfl) (pa_cons (pv 1) (pa_cons (pv 8) (pa_cons (pv 2) pa_nil)))) (pv 3) (nomark _))) (fun _ _ _ _ _ => pv 8))
      (pss_cons (ps_set (i := 6) sc__law_stretch_right.nd rfl (.inl rfl) (pe_ifExp (pt_cmpR (op_neD hu) (pv 5) (pe_lst pa_nil) (nomark _)) (pe_tup (pa_cons (pe_ix ix_list (pv 5) pe_int (fun _ _ => rfl)) (pa_cons (pe_ix ix_list (pv 5) (pe_un un_neg pe_int) (fun _ _ => rfl)) pa_nil))) pe_non))
      (pss_cons (ps_set (i := 7) sc__law_stretch_right.nd rfl (.inl rfl) (pe_lst (pa_cons (pc (c_count_stretch T) hr (by decide) (by rfl) (pa_cons (pv 3) (pa_cons (pv 2) (pa_cons (pv 4) pa_nil)))) (pa_cons (pck (c_count_stretch T) T.d_count_stretch bik_count_stretch hr (by decide) (by rfl) (pk_cons (pv 4) (pk_cons (pv 2) (pk_cons (pv 3) pk_nil)))) pa_nil))))
      (pss_one (ps_ret (pe_cmpR op_eq (pe_callB (call_repr hgd hu) (by rfl) T.b_repr (by decide +kernel) (pa_cons (pv 7) pa_nil))
        (pe_callB (call_repr hgd hu) (by rfl) T.b_repr (by decide +kernel) (pa_cons (pe_lst (pa_cons (pv 6) (pa_cons (pv 6) pa_nil))) pa_nil)) (nomark _)))))))))), ?_⟩
    have hup := unit_pos pl
    -- people
    suffices ppl : ∀ (p : Int) (H1 : Hp), 0 < p → p ≤ 3000 → Keep W H H1 → Wl H1 W → tSeq _ _ _ ((start n__law_stretch_right [.ref W, .int (unitOf pl)]).set 2 (some (.int p))) H1 from by
      refine ⟨_, rfl, W, 16, rfl, by decide, by decide, hW, fun H1 v v0 v1 k1 w1 => ⟨rfl, _, rfl, ?_⟩⟩
      by_cases hv : V.int v = V.int 0
      · rw [decide_eq_true hv]
        refine iteT ⟨_, rfl, W, 99, rfl, by decide, by decide, w1, fun H2 y y0 y1 k2 w2 => ⟨_, _, rfl, rfl, ?_⟩⟩
        exact ppl (3000 - y) H2 (by omega) (by omega) (k1.trans k2) w2
      · rw [decide_eq_false hv]
        refine iteF ⟨_, rfl, W, 40, rfl, by decide, by decide, w1, fun H2 y y0 y1 k2 w2 => ⟨_, _, rfl, rfl, ?_⟩⟩
        exact ppl (1 + y) H2 (by omega) (by omega) (k1.trans k2) w2
    intro p H1 p0 p1 k1 w1
    -- share
    refine ⟨_, rfl, _, rfl, _, rfl, _, _, rfl, rfl, W, p + 1, rfl, by omega, in200 (by omega), w1, fun H2 c c0 c1 k2 w2 => ?_⟩
    refine ⟨_, rfl, unitOf pl, c, p, rfl, hup.1, hup.2, p0, in200 (by omega), ?_⟩
    have hn0 := near_nn (u := unitOf pl) (c := c) (p := p) hup.1 p0 c0
    have hn1 := near_le (u := unitOf pl) (c := c) (p := p) hup.1 p0 (by omega)
    generalize near (unitOf pl) c p = sh at *
    refine ⟨_, rfl, _, rfl, _, rfl, _, _, rfl, rfl, _, rfl, _, _, rfl, rfl, _, _, rfl, _, rfl, W, 1001, rfl, by decide, by decide, w2, fun H3 y y0 y1 k3 w3 => ⟨(by show 5 ≤ sizeLine; decide), fun l nl => ?_⟩⟩
    have sl := same_upd (o := .lst ([sh, sh, sh + 1, (if sh - 1 > 0 then sh - 1 else 0), y].map V.int)) nl
    have el : (upd H3 l (.lst ([sh, sh, sh + 1, (if sh - 1 > 0 then sh - 1 else 0), y].map V.int))) l = some (.lst ([sh, sh, sh + 1, (if sh - 1 > 0 then sh - 1 else 0), y].map V.int)) := upd_same
    have nelW := wl_ne w3 nl
    refine ⟨_, rfl, W, 5, rfl, by decide, by decide, w3.same sl, fun H4 i i0 i1 k4 w4 => ?_⟩
    obtain ⟨z, hz, ez⟩ := ix_of (xs := [sh, sh, sh + 1, (if sh - 1 > 0 then sh - 1 else 0), y]) i0 (by show i < 5; omega)
    refine ⟨l, _, i, _, rfl, rfl, .inl (.inl (k4 _ _ nelW.symm el)), ez, ?_⟩
    have k14 : Keep W H H4 := ((k1.trans k2).trans k3).trans ((Keep.of_same sl).trans k4)
    have hz0 : 0 ≤ z := by
      simp only [List.mem_cons, List.not_mem_nil, or_false] at hz
      rcases hz with rfl | rfl | rfl | rfl | rfl
      · omega
      · omega
      · omega
      · split <;> omega
      · omega
    clear hz ez el sl
    have hm0 : 0 ≤ (if (1000 : Int) < z then 1000 else z) := by split <;> omega
    have hm1 : (if (1000 : Int) < z then 1000 else z) ≤ 1000 := by split <;> omega
    refine ⟨_, rfl, _, _, rfl, pl, rfl, l0, l1, (by show 2 ≤ sizeLine; decide), fun t nt => ?_⟩
    have st := same_upd (o := .tup [V.int (if (1000 : Int) < z then 1000 else z), V.int pl]) nt
    have et : (upd H4 t (.tup [V.int (if (1000 : Int) < z then 1000 else z), V.int pl])) t = some (.tup [V.int (if (1000 : Int) < z then 1000 else z), V.int pl]) := upd_same
    generalize upd H4 t (.tup [V.int (if (1000 : Int) < z then 1000 else z), V.int pl]) = H5 at *
    generalize (if (1000 : Int) < z then 1000 else z) = sr at *
    refine ⟨t, _, rfl, .inl (.inl et), rfl, _, _, rfl, _, _, rfl, rfl, ?_⟩
    have k15 : Keep W H H5 := k14.trans (Keep.of_same st)
    have w5 := w4.same st
    -- own
    refine ⟨_, rfl, _, _, rfl, rfl, _, rfl, (in62 (by omega) (by omega)).1, (in62 (by omega) (by omega)).2, fun D nD => ?_⟩
    refine lc_range (lo := 0) (n := (p + 1).toNat) (fun i H' => Same H5 H' ∧ H' D = some (.lst ((owns (unitOf pl) p sr i).map V.int)) ∧ (owns (unitOf pl) p sr i).length ≤ i) ⟨same_upd nD, upd_same, Nat.le_refl _⟩ ?_ ?_
    · rintro i H6 hi ⟨s6, eD, hl⟩
      refine ⟨rfl, ?_⟩
      refine ⟨_, rfl, _, rfl, _, rfl, unitOf pl, _, p, rfl, hup.1, hup.2, p0, in200 (by omega), _, rfl, rfl, _, rfl, ?_⟩
      rw [Int.zero_add]
      by_cases hc : near (unitOf pl) (i : Int) p = sr
      · rw [decide_eq_true (by rw [hc])]
        refine iteT ⟨_, rfl, _, eD, ?_, ?_, ?_, ?_⟩
        · rw [List.length_map]
          exact lt_line (m := 4000) (by omega) (by omega)
        · intro b o e
          rw [upd_ne (ne_of_none e nD)]
          exact s6 b o e
        · rw [upd_same, owns_succ, if_pos hc, List.map_append]
          rfl
        · rw [owns_succ, if_pos hc, List.length_append]
          exact Nat.succ_le_succ hl
      · rw [decide_eq_false (fun e => hc (V.int.inj e))]
        refine iteF ⟨s6, ?_, ?_⟩
        · rw [owns_succ, if_neg hc]
          exact eD
        · rw [owns_succ, if_neg hc]
          exact Nat.le_succ_of_le hl
    rintro H6 ⟨s6, eD, hl⟩
    have hends := stretch_ends (u := unitOf pl) (p := p) (s := sr) hup.1 p0 hm0
    have hsmall := stretch_small (u := unitOf pl) (p := p) (s := sr) hup.1 p0 (by omega)
    generalize owns (unitOf pl) p sr (p + 1).toNat = ow at *
    have k16 := k15.trans (Keep.of_same (W := W) s6)
    have w6 := w5.same s6
    -- due
    suffices rest : ∀ (v : V) (H7 : Hp), Same H6 H7 → OptAt H7 v ((stretch (unitOf pl) p sr).map fun x => [x.1, x.2]) → tSeq _ _ _ ((((((start n__law_stretch_right [.ref W, .int (unitOf pl)]).set 2 (some (.int p))).set 3 (some (.int sr))).set 4 (some (.int pl))).set 5 (some (.ref D))).set 6 (some v)) H7 from by
      refine ⟨_, rfl, Nat.zero_le _, fun z nz => ?_⟩
      have sz := same_upd (o := .lst []) nz
      have ez : (upd H6 z (.lst [])) z = some (.lst []) := upd_same
      generalize upd H6 z (.lst []) = H7 at *
      have eD7 := sz _ _ eD
      refine ⟨intsD ow, .list [], .lst (.inl (.inl eD7)) (dp_ints ow), .lst (.inl (.inl ez)) .nil, shaped_ints _, rfl, _, rfl, ?_⟩
      rw [eqv_ints0]
      cases ow with
      | nil => exact iteF (rest .non H7 sz (.inl ⟨hends, rfl⟩))
      | cons a r =>
        have hlast : ((a :: r).map V.int) = ((a :: r).dropLast.map V.int) ++ [.int ((a :: r).getLast (List.cons_ne_nil _ _))] := by
          rw [← List.map_singleton, ← List.map_append, List.dropLast_concat_getLast]
        have gl : atI ((a :: r).map V.int) (-1) = some (.int ((a :: r).getLast (List.cons_ne_nil _ _))) := by
          rw [hlast]
          exact atI_last _ _
        refine iteT ⟨_, rfl, D, _, ((0 : Nat) : Int), .int a, rfl, rfl, .inl (.inl eD7), atI_nat rfl, _, rfl, _, rfl, D, _, -1, _, rfl, rfl, .inl (.inl eD7), gl, (by show 2 ≤ sizeLine; decide), fun y ny => ?_⟩
        refine rest _ _ (sz.trans (same_upd ny)) (.inr ⟨y, [a, (a :: r).getLast (List.cons_ne_nil _ _)], ?_, rfl, upd_same⟩)
        rw [hends]
        unfold endsOf
        rw [List.getLast?_eq_getLast (List.cons_ne_nil a r)]
        rfl
    intro v H7 s7 hO
    -- told
    refine ⟨_, rfl, _, rfl, _, rfl, sr, p, pl, rfl, hm0, hm1, p0, l0, l1, fun H8 v1 s8 o1 => ?_⟩
    refine ⟨_, rfl, _, rfl, _, rfl, sr, p, pl, rfl, hm0, hm1, p0, l0, l1, fun H9 v2 s9 o2 => ⟨(by show 2 ≤ sizeLine; decide), fun c nc => ?_⟩⟩
    have sc := same_upd (o := .lst [v1, v2]) nc
    have ec : (upd H9 c (.lst [v1, v2])) c = some (.lst [v1, v2]) := upd_same
    generalize upd H9 c (.lst [v1, v2]) = H10 at *
    have o1' := o1.same (s9.trans sc)
    have o2' := o2.same sc
    have hNo := nice_opt hsmall
    have hN : ∀ z ∈ [optD ((stretch (unitOf pl) p sr).map fun x => [x.1, x.2]), optD ((stretch (unitOf pl) p sr).map fun x => [x.1, x.2])], Nice z 1 50000 := fun z hz => by
      simp only [List.mem_cons, List.not_mem_nil, or_false] at hz
      rcases hz with rfl | rfl
      · exact hNo
      · exact hNo
    obtain ⟨f1, f2, f3, f4⟩ := repr_facts hN (by show 2 ≤ 10; decide)
    refine ⟨_, rfl, c, _, rfl, .lst (.inl (.inl ec)) (.cons o1'.dp (.cons o2'.dp .nil)), f1, f2, f3, f4, ?_⟩
    refine ⟨_, rfl, _, rfl, (by show 2 ≤ sizeLine; decide), fun e ne => ?_⟩
    have se := same_upd (o := .lst [v, v]) ne
    have ee : (upd H10 e (.lst [v, v])) e = some (.lst [v, v]) := upd_same
    generalize upd H10 e (.lst [v, v]) = H11 at *
    have s711 := s8.trans (s9.trans (sc.trans se))
    have hO11 := hO.same s711
    refine ⟨e, _, rfl, .lst (.inl (.inl ee)) (.cons hO11.dp (.cons hO11.dp .nil)), f1, f2, f3, f4, rfl, ?_⟩
    have s611 := s7.trans s711
    exact (qT (p := V.str (PyData.list [optD ((stretch (unitOf pl) p sr).map fun x => [x.1, x.2]), optD ((stretch (unitOf pl) p sr).map fun x => [x.1, x.2])]).shown = V.str (PyData.list [optD ((stretch (unitOf pl) p sr).map fun x => [x.1, x.2]), optD ((stretch (unitOf pl) p sr).map fun x => [x.1, x.2])]).shown) rfl (q H11 (k16.trans (Keep.of_same s611)) (w6.same s611)) :)
end
end K68
/-! the law -/
namespace K68
open PySem PySem.Spec PyProof.Rows L2
theorem flat_len {α β : Type} (f : α → List β) (B : Nat) : ∀ {xs : List α}, (∀ x ∈ xs, (f x).length ≤ B) → (xs.flatMap f).length ≤ xs.length * B
  | [], _ => by simp
  | x :: r, h => by
    have h1 := h x List.mem_cons_self
    have h2 := flat_len f B (xs := r) fun y hy => h y (List.mem_cons_of_mem x hy)
    rw [List.flatMap_cons, List.length_append, List.length_cons, Nat.add_mul, Nat.one_mul]
    omega
theorem level_len {p : Int} (p0 : 0 ≤ p) : ∀ t : Nat, (level p t).length ≤ (p + 1).toNat ^ t
  | 0 => Nat.le_refl _
  | t + 1 => by
    have ih := level_len p0 t
    have h : (level p (t + 1)).length ≤ (level p t).length * (p + 1).toNat := by
      refine flat_len (exts p) _ fun own ho => ?_
      have hw := own_level p0 t own ho
      have := sum_nn hw.nn
      rw [exts_len hw]
      omega
    rw [Nat.pow_succ]
    exact Nat.le_trans h (Nat.mul_le_mul_right _ ih)
theorem level_small {p top : Int} {m B : Nat} (p0 : 0 ≤ p) (p1 : p ≤ top) (hB : (top + 1).toNat ^ m ≤ B) : ∀ t, t ≤ m → (level p t).length ≤ B := fun t ht => by
  have h1 := level_len p0 t
  have h2 : (p + 1).toNat ^ t ≤ (top + 1).toNat ^ t := Nat.pow_le_pow_left (by omega) t
  have h3 : (top + 1).toNat ^ t ≤ (top + 1).toNat ^ m := Nat.pow_le_pow_right (by omega) ht
  omega
theorem tops {v : Int} (v0 : 0 ≤ v) (v1 : v < 5) : ∃ (top : Int) (m : Nat), atI [V.int 300, .int 12, .int 7, .int 5, .int 4] (2 + v - 2) = some (.int top) ∧ 4 ≤ top ∧ top ≤ 300 ∧ 2 + v = (m : Int) + 1 ∧ 1 ≤ m ∧ m ≤ 5 ∧ ∀ p : Int, 0 ≤ p → p ≤ top → ∀ t, t ≤ m → (level p t).length ≤ 10000 := by
  rcases (by omega : v = 0 ∨ v = 1 ∨ v = 2 ∨ v = 3 ∨ v = 4) with rfl | rfl | rfl | rfl | rfl
  · exact ⟨300, 1, rfl, by decide, by decide, rfl, by decide, by decide, fun p p0 p1 => level_small p0 p1 (by decide)⟩
  · exact ⟨12, 2, rfl, by decide, by decide, rfl, by decide, by decide, fun p p0 p1 => level_small p0 p1 (by decide)⟩
  · exact ⟨7, 3, rfl, by decide, by decide, rfl, by decide, by decide, fun p p0 p1 => level_small p0 p1 (by decide)⟩
  · exact ⟨5, 4, rfl, by decide, by decide, rfl, by decide, by decide, fun p p0 p1 => level_small p0 p1 (by decide)⟩
  · exact ⟨4, 5, rfl, by decide, by decide, rfl, by decide, by decide, fun p p0 p1 => level_small p0 p1 (by decide)⟩
theorem units_of {x : Int} (h : x ∈ [(100 : Int), 100, 1000]) : ∃ pl : Int, 0 ≤ pl ∧ pl ≤ 1 ∧ x = unitOf pl := by
  simp only [List.mem_cons, List.not_mem_nil, or_false] at h
  rcases h with rfl | rfl | rfl
  · exact ⟨0, by decide, by decide, rfl⟩
  · exact ⟨0, by decide, by decide, rfl⟩
  · exact ⟨1, by decide, by decide, rfl⟩
section
variable {P : Program} {w : World} {K : PySem.W.Frag} {mg : Str → Option Value} {base : Heap} {C fi fe pp ps pt gp gs gt : Addr}
def spRight : Sp := fun vs H Q _ => ∃ W : Addr, vs = [.ref W] ∧ Wl H W ∧ ∀ H', Keep W H H' → Q (.bl true) H'
theorem c_right (T : Tx K mg C fi fe pp ps pt gp gs gt) : ClG P w K mg base 9 "_law_right" ["_law_well_here"] spRight := by
  refine clG_of T.d__law_right sc__law_right bi__law_right (fun vs H Q E h => ?_) (fun f cdv A outer s H vs Q E hr hgd h => ?_)
  · obtain ⟨W, rfl, _⟩ := h
    rfl
  · obtain ⟨W, rfl, hW, q⟩ := h
    refine ⟨_, pss_cons (ps_for PassesOwn.never rfl (pi_range1 (by rfl) T.b_range (pa_cons pe_int pa_nil)) (pg_name (i := 1) sc__law_right.nd rfl (.inl rfl))
        (pss_cons (ps_par (i := 2) (j := 3) (by rfl) sc__law_right.nd rfl rfl (by decide) rfl rfl (pa_cons (pc (c_of T) hr (by decide) (by rfl) (pa_cons (pv 0) (pa_cons (pe_lst (pa_cons pe_int (pa_cons pe_int (pa_cons pe_int pa_nil)))) pa_nil))) (pa_cons (pe_op op_add pe_int (pc (c_draw T) hr (by decide) (by rfl) (pa_cons (pv 0) (pa_cons pe_int pa_nil)))) pa_nil)) (by rfl))
        (pss_cons (ps_set (i := 4) sc__law_right.nd rfl (.inl rfl) (pe_ix ix_list (pe_lst (pa_cons pe_int (pa_cons pe_int (pa_cons pe_int (pa_cons pe_int (pa_cons pe_int pa_nil)))))) (pe_op op_sub (pv 3) pe_int) (fun _ _ => rfl)))
        (pss_cons (ps_set (i := 5) sc__law_right.nd rfl (.inl rfl) (pe_op op_add pe_int (pc (c_draw T) hr (by decide) (by rfl) (pa_cons (pv 0) (pa_cons (pv 4) pa_nil)))))
        (pss_cons (ps_set (i := 6) sc__law_right.nd rfl (.inl rfl) (pc (c_sharesD T) hr (by decide) (by rfl) (pa_cons (pv 0) (pa_cons (pv 2) (pa_cons (pv 3) (pa_cons (pv 5) pa_nil))))))
        (pss_cons (ps_if (PW.pt (pw_or (pt_not (pt_val (pcG (c_fits T) hr (by decide) hgd (by rfl) (pa_cons (pv 2) (pa_cons (pv 6) (pa_cons (pv 5) pa_nil))))))
          (pw_or1 (pt_not (pt_val (pcG (c_fits T) hr (by decide) hgd (by rfl) (pa_cons (pv 2) (pa_cons (pv 6) (pa_cons (pe_op op_add pe_int (pc (c_draw T) hr (by decide) (by rfl) (pa_cons (pv 0) (pa_cons (pv 4) pa_nil)))) pa_nil))))))))) (pss_one (ps_ret pe_bl)) pss_nil)
        (pss_cons (ps_if (PW.pt (pw_or (pt_not (pt_val (pcG (c_pollR T) hr (by decide) hgd (by rfl) (pa_cons (pv 0) (pa_cons (pv 2) (pa_cons (pv 3) pa_nil))))))
          (pw_or1 (pt_not (pt_val (pcG (c_strR T) hr (by decide) hgd (by rfl) (pa_cons (pv 0) (pa_cons (pv 2) pa_nil)))))))) (pss_one (ps_ret pe_bl)) pss_nil)
        (pss_one (ps_if (pt_not (pt_val (pcG (c_strR T) hr (by decide) hgd (by rfl) (pa_cons (pv 0) (pa_cons (pv 2) pa_nil))))) (pss_one (ps_ret pe_bl)) pss_nil)))))))))
      (pss_one (ps_ret pe_bl)), ?_⟩
    refine ⟨_, rfl, by decide, by decide, ?_⟩
    refine for_range (lo := 0) (n := (4 : Int).toNat) (fun i σ H' => ∃ y1 y2 y3 y4 y5 y6 : Option V, σ = [some (.ref W), y1, y2, y3, y4, y5, y6] ∧ Keep W H H' ∧ Wl H' W) ⟨none, none, none, none, none, none, rfl, Keep.refl W H, hW⟩ ?_ ?_
    · rintro i σ H1 hi ⟨y1, y2, y3, y4, y5, y6, rfl, k1, w1⟩
      refine ⟨_, rfl, (by show 3 ≤ sizeLine; decide), fun l nl => ?_⟩
      have sl := same_upd (o := .lst ([(100 : Int), 100, 1000].map V.int)) nl
      refine ⟨W, l, [100, 100, 1000], rfl, (wl_ne w1 nl).symm, upd_same, by decide, by decide, w1.same sl, fun H2 x hx k2 w2 => ?_⟩
      obtain ⟨pl, l0, l1, rfl⟩ := units_of hx
      have hup := unit_pos pl
      have hu10 : 10 ≤ unitOf pl := by
        unfold unitOf
        split <;> omega
      refine ⟨_, rfl, W, 5, rfl, by decide, by decide, w2, fun H3 v v0 v1 k3 w3 => ⟨_, _, rfl, rfl, _, _, rfl, ?_⟩⟩
      have k13 : Keep W H H3 := k1.trans ((Keep.of_same sl).trans (k2.trans k3))
      obtain ⟨top, m, htop, t4, t300, hm, m1, m5, hlev⟩ := tops v0 v1
      refine ⟨(by show 5 ≤ sizeLine; decide), fun l2 nl2 => ?_⟩
      have s4 := same_upd (o := .lst [V.int 300, .int 12, .int 7, .int 5, .int 4]) nl2
      have e4 : (upd H3 l2 (.lst [V.int 300, .int 12, .int 7, .int 5, .int 4])) l2 = some (.lst [V.int 300, .int 12, .int 7, .int 5, .int 4]) := upd_same
      generalize upd H3 l2 (.lst [V.int 300, .int 12, .int 7, .int 5, .int 4]) = H4 at *
      refine ⟨_, rfl, _, _, rfl, rfl, l2, _, _, _, rfl, rfl, .inl (.inl e4), htop, ?_⟩
      have k14 := k13.trans (Keep.of_same s4)
      have w4 := w3.same s4
      refine ⟨_, rfl, _, rfl, W, top, rfl, by omega, in200 (by omega), w4, fun H5 u u0 u1 k5 w5 => ⟨_, _, rfl, rfl, ?_⟩⟩
      have k15 := k14.trans k5
      refine ⟨_, rfl, _, rfl, _, rfl, _, rfl, W, unitOf pl, m, 1 + u, ?_, m1, m5, hu10, hup.2, by omega, by omega, w5, fun H6 t S hSl hS k6 w6 nt et => ?_⟩
      · show [V.ref W, V.int (unitOf pl), V.int (2 + v), V.int (1 + u)] = _
        rw [hm]
      have k16 := k15.trans k6
      have b1 := hlev (1 + u) (by omega) (by omega)
      refine ⟨_, rfl, _, rfl, _, rfl, pl, t, S, m, 1 + u, rfl, l0, l1, .inl (.inl et), hSl, m1, m5, hS, by omega, by omega, b1, fun H7 s7 => ⟨true, rfl, iteF ?_⟩⟩
      have w7 := w6.same s7
      have et7 := s7 _ _ et
      refine ⟨_, rfl, _, rfl, _, rfl, _, rfl, W, top, rfl, by omega, in200 (by omega), w7, fun H8 z z0 z1 k8 w8 => ?_⟩
      have hT8 : SqT K H8 t (S.map V.int) := k8.tup w7 (.inl (.inl et7))
      have b2 := hlev (1 + z) (by omega) (by omega)
      refine ⟨_, _, rfl, rfl, pl, t, S, m, 1 + z, rfl, l0, l1, hT8, hSl, m1, m5, hS, by omega, by omega, b2, fun H9 s9 => ⟨true, rfl, iteF ?_⟩⟩
      have k19 := (k16.trans (Keep.of_same s7)).trans (k8.trans (Keep.of_same s9))
      have w9 := w8.same s9
      refine ⟨_, rfl, _, rfl, _, rfl, W, pl, m, ?_, l0, l1, m1, m5, w9, fun H10 k10 w10 => ⟨true, rfl, iteF ?_⟩⟩
      · show [V.ref W, V.int (unitOf pl), V.int (2 + v)] = _
        rw [hm]
      refine ⟨_, rfl, _, rfl, W, pl, rfl, l0, l1, w10, fun H11 k11 w11 => ⟨true, rfl, iteF ?_⟩⟩
      refine ⟨_, rfl, _, rfl, W, pl, rfl, l0, l1, w11, fun H12 k12 w12 => ⟨true, rfl, iteF ?_⟩⟩
      exact ⟨_, _, _, _, _, _, rfl, k19.trans (k10.trans (k11.trans k12)), w12⟩
    · rintro σ H1 ⟨y1, y2, y3, y4, y5, y6, rfl, k1, w1⟩
      exact q H1 k1
def spLaw (K : PySem.W.Frag) : Sp := fun vs H Q _ => ∃ (a : Addr) (ns : List Int), vs = [.ref a] ∧ SqL K H a (ns.map V.int) ∧ ns.length ≤ 63 ∧ ∀ H', Q (.bl true) H'
theorem same_list {K : PySem.W.Frag} {H H' : Hp} {a : Addr} {xs : List V} (s : Same H H') (h : SqL K H a xs) : SqL K H' a xs := by
  rcases h with (h | ⟨o, h⟩) | h
  · exact .inl (.inl (s _ _ h))
  · exact .inl (.inr ⟨o, s _ _ h⟩)
  · exact .inr h
theorem fn_law (T : Tx K mg C fi fe pp ps pt gp gs gt) {f : Addr} {fd : FuncData} (F : Fun K "law" "law" s_law f fd) : FnG P w K mg base 10 f fd ["_law_script"] (spLaw K) := by
  refine okG F sc_law (fun vs H Q E h => ?_) (fun cdv A outer s H vs Q E hr hgd h => ?_)
  · obtain ⟨a, ns, rfl, _⟩ := h
    rfl
  · obtain ⟨a, ns, rfl, hS, hl, q⟩ := h
    refine ⟨_, pss_one (ps_ret (pe_callB (cr_all rfl) (by rfl) T.b_all (by decide +kernel) (pa_cons (pe_lc (own := [("_law_k", 1)]) (g := gName 1) (tt := tYes) (by rfl) sc_law.nd (pi_range1 (by rfl) T.b_range (pa_cons pe_int pa_nil)) (blkOk_by (N := n_law) (sc := defScope s_law) (by decide +kernel))
      (fun _ _ _ _ _ => pg_name (i := 1) sc_law.nd rfl (Or.inl rfl)) (fun _ _ _ _ _ => pts_nil) (fun _ _ _ _ _ => pcG (c_right T) hr (by decide) hgd (by rfl) (pa_cons (pc (c_well T) hr (by decide) (by rfl) (pa_cons (pv 0) (pa_cons (pv 1) pa_nil))) pa_nil))) pa_nil))), ?_⟩
    refine ⟨_, rfl, by decide, by decide, fun D nD => ?_⟩
    refine lc_range (lo := 0) (n := (2 : Int).toNat) (fun i H' => Same H H' ∧ ∃ bs, H' D = some (.lst (bs.map V.bl)) ∧ bs = List.replicate i true) ⟨same_upd nD, [], upd_same, rfl⟩ ?_ ?_
    · rintro i H1 hi ⟨s1, bs, eD, hbs⟩
      have hi2 : i < 2 := hi
      refine ⟨rfl, yes (iteT ?_)⟩
      refine ⟨_, rfl, _, rfl, a, ns, _, rfl, same_list s1 hS, hl, by omega, by omega, fun H2 W s2 nW hW => ?_⟩
      refine ⟨W, rfl, hW, fun H3 k3 => ?_⟩
      have neD : D ≠ W := ne_of_none eD nW
      refine ⟨_, k3 _ _ neD (s2 _ _ eD), ?_, fun b o e => ?_, bs ++ [true], ?_, ?_⟩
      · rw [List.length_map, hbs, List.length_replicate]
        exact lt_line (m := 2) (by omega) (by omega)
      · have e1 := s1 _ _ e
        rw [upd_ne (ne_of_none e nD)]
        exact k3 _ _ (ne_of_none e1 nW) (s2 _ _ e1)
      · rw [upd_same, List.map_append]
        rfl
      · rw [hbs, ← List.replicate_succ']
    · rintro H1 ⟨s1, bs, eD, hbs⟩
      refine ⟨D, bs, rfl, .inl (.inl eD), ?_⟩
      rw [hbs, all_true]
      exact q H1
theorem law_top (T : Tx K mg C fi fe pp ps pt gp gs gt) {fa : Addr} (hfa : mg "law" = some (.ref fa)) :
    ∃ fd : FuncData, (∀ (s : Shared) (u : Value), BindsTo s fd ⟨[u], []⟩ [("_law_script", u)]) ∧ ∀ (P : Program) (w : World) (base : Heap), FnG P w K mg base 10 fa fd ["_law_script"] (spLaw K) := by
  obtain ⟨f, fd, F, hm⟩ := T.d_law.ex
  obtain rfl : f = fa := by
    have e := hm.symm.trans hfa
    injection e with e
    injection e
  refine ⟨fd, fun s u => ?_, fun P w base => fn_law T F⟩
  obtain ⟨oc, od, kV, doc, pm, an, cdv, ct, osl, rfl, _, _⟩ := F.ex
  exact .of_eq (bi_law kV doc pm an cdv ct [u] rfl)
end
end K68
open PySem PySem.W PyProof.Rows
set_option Elab.async false
set_option maxRecDepth 100000 in
set_option maxHeartbeats 0 in
theorem PySem.Challenge.cw_toldcounts_k68_whole_counts_by_trying_holds : PySem.Challenge.rw_toldcounts_k68_whole_counts_by_trying.Holds := by
  w_on; o_law; k_head; (case hw => w_witness2)
  k_fill
  refine K68.walkG (l := PySem.Challenge.rw_toldcounts_k68_whole_counts_by_trying) (n := 63) (k := 10) (x := "_law_script") (sp := K68.spLaw) rfl (by decide) rfl ⟨rfl, by decide, by decide⟩ (fun w h Y => PySem.W.kIn_of Y) ?F (fun _ _ a ns hl hS => ⟨a, ns, rfl, hS, hl, fun _ => rfl⟩)
  case F =>
    intro w mg fa h KX G hmg
    have z_isinstance : mg "isinstance" = none := PySem.W.mg_none_of KX G (by k_is)
    have z_int : mg "int" = none := PySem.W.mg_none_of KX G (by k_is)
    have z_bool : mg "bool" = none := PySem.W.mg_none_of KX G (by k_is)
    have z_tuple : mg "tuple" = none := PySem.W.mg_none_of KX G (by k_is)
    have z_len : mg "len" = none := PySem.W.mg_none_of KX G (by k_is)
    have z_all : mg "all" = none := PySem.W.mg_none_of KX G (by k_is)
    have z_str : mg "str" = none := PySem.W.mg_none_of KX G (by k_is)
    have z_max : mg "max" = none := PySem.W.mg_none_of KX G (by k_is)
    have z_min : mg "min" = none := PySem.W.mg_none_of KX G (by k_is)
    have z_sum : mg "sum" = none := PySem.W.mg_none_of KX G (by k_is)
    have z_enumerate : mg "enumerate" = none := PySem.W.mg_none_of KX G (by k_is)
    have z_range : mg "range" = none := PySem.W.mg_none_of KX G (by k_is)
    have z_list : mg "list" = none := PySem.W.mg_none_of KX G (by k_is)
    have z_abs : mg "abs" = none := PySem.W.mg_none_of KX G (by k_is)
    have z_divmod : mg "divmod" = none := PySem.W.mg_none_of KX G (by k_is)
    have z_repr : mg "repr" = none := PySem.W.mg_none_of KX G (by k_is)
    have d_is_integer : K68.DefM (L2.KOf KX) mg "is_integer" K68.s_is_integer := by
      refine' K68.defM_mk KX G ?a ?l ?c ?k
      (case a => k_is); (case l => k_is); (case c => k_is); (case k => k_is)
    have d_is_within : K68.DefM (L2.KOf KX) mg "is_within" K68.s_is_within := by
      refine' K68.defM_mk KX G ?a ?l ?c ?k
      (case a => k_is); (case l => k_is); (case c => k_is); (case k => k_is)
    have d_is_natural : K68.DefM (L2.KOf KX) mg "is_natural" K68.s_is_natural := by
      refine' K68.defM_mk KX G ?a ?l ?c ?k
      (case a => k_is); (case l => k_is); (case c => k_is); (case k => k_is)
    have d_is_tuple_of : K68.DefM (L2.KOf KX) mg "is_tuple_of" K68.s_is_tuple_of := by
      refine' K68.defM_mk KX G ?a ?l ?c ?k
      (case a => k_is); (case l => k_is); (case c => k_is); (case k => k_is)
    have d_are_naturals : K68.DefM (L2.KOf KX) mg "are_naturals" K68.s_are_naturals := by
      refine' K68.defM_mk KX G ?a ?l ?c ?k
      (case a => k_is); (case l => k_is); (case c => k_is); (case k => k_is)
    have d_numbers_text : K68.DefM (L2.KOf KX) mg "numbers_text" K68.s_numbers_text := by
      refine' K68.defM_mk KX G ?a ?l ?c ?k
      (case a => k_is); (case l => k_is); (case c => k_is); (case k => k_is)
    have d_next_whole : K68.DefM (L2.KOf KX) mg "next_whole" K68.s_next_whole := by
      refine' K68.defM_mk KX G ?a ?l ?c ?k
      (case a => k_is); (case l => k_is); (case c => k_is); (case k => k_is)
    have d_check_people : K68.DefM (L2.KOf KX) mg "check_people" K68.s_check_people := by
      refine' K68.defM_mk KX G ?a ?l ?c ?k
      (case a => k_is); (case l => k_is); (case c => k_is); (case k => k_is)
    have d_check_poll_places : K68.DefM (L2.KOf KX) mg "check_poll_places" K68.s_check_poll_places := by
      refine' K68.defM_mk KX G ?a ?l ?c ?k
      (case a => k_is); (case l => k_is); (case c => k_is); (case k => k_is)
    have d_check_shares : K68.DefM (L2.KOf KX) mg "check_shares" K68.s_check_shares := by
      refine' K68.defM_mk KX G ?a ?l ?c ?k
      (case a => k_is); (case l => k_is); (case c => k_is); (case k => k_is)
    have d_check_poll : K68.DefM (L2.KOf KX) mg "check_poll" K68.s_check_poll := by
      refine' K68.defM_mk KX G ?a ?l ?c ?k
      (case a => k_is); (case l => k_is); (case c => k_is); (case k => k_is)
    have d_unit_of : K68.DefM (L2.KOf KX) mg "unit_of" K68.s_unit_of := by
      refine' K68.defM_mk KX G ?a ?l ?c ?k
      (case a => k_is); (case l => k_is); (case c => k_is); (case k => k_is)
    have d_poll_of : K68.DefM (L2.KOf KX) mg "poll_of" K68.s_poll_of := by
      refine' K68.defM_mk KX G ?a ?l ?c ?k
      (case a => k_is); (case l => k_is); (case c => k_is); (case k => k_is)
    have d_share_ends : K68.DefM (L2.KOf KX) mg "share_ends" K68.s_share_ends := by
      refine' K68.defM_mk KX G ?a ?l ?c ?k
      (case a => k_is); (case l => k_is); (case c => k_is); (case k => k_is)
    have d_count_stretch : K68.DefM (L2.KOf KX) mg "count_stretch" K68.s_count_stretch := by
      refine' K68.defM_mk KX G ?a ?l ?c ?k
      (case a => k_is); (case l => k_is); (case c => k_is); (case k => k_is)
    have d_all_ends : K68.DefM (L2.KOf KX) mg "all_ends" K68.s_all_ends := by
      refine' K68.defM_mk KX G ?a ?l ?c ?k
      (case a => k_is); (case l => k_is); (case c => k_is); (case k => k_is)
    have d_does_fit : K68.DefM (L2.KOf KX) mg "does_fit" K68.s_does_fit := by
      refine' K68.defM_mk KX G ?a ?l ?c ?k
      (case a => k_is); (case l => k_is); (case c => k_is); (case k => k_is)
    have d_does_fit_people : K68.DefM (L2.KOf KX) mg "does_fit_people" K68.s_does_fit_people := by
      refine' K68.defM_mk KX G ?a ?l ?c ?k
      (case a => k_is); (case l => k_is); (case c => k_is); (case k => k_is)
    have d_first_counts : K68.DefM (L2.KOf KX) mg "first_counts" K68.s_first_counts := by
      refine' K68.defM_mk KX G ?a ?l ?c ?k
      (case a => k_is); (case l => k_is); (case c => k_is); (case k => k_is)
    have d__law_well : K68.DefM (L2.KOf KX) mg "_law_well" K68.s__law_well := by
      refine' K68.defM_mk KX G ?a ?l ?c ?k
      (case a => k_is); (case l => k_is); (case c => k_is); (case k => k_is)
    have d__law_draw : K68.DefM (L2.KOf KX) mg "_law_draw" K68.s__law_draw := by
      refine' K68.defM_mk KX G ?a ?l ?c ?k
      (case a => k_is); (case l => k_is); (case c => k_is); (case k => k_is)
    have d__law_of : K68.DefM (L2.KOf KX) mg "_law_of" K68.s__law_of := by
      refine' K68.defM_mk KX G ?a ?l ?c ?k
      (case a => k_is); (case l => k_is); (case c => k_is); (case k => k_is)
    have d__law_near : K68.DefM (L2.KOf KX) mg "_law_near" K68.s__law_near := by
      refine' K68.defM_mk KX G ?a ?l ?c ?k
      (case a => k_is); (case l => k_is); (case c => k_is); (case k => k_is)
    have d__law_shares_of : K68.DefM (L2.KOf KX) mg "_law_shares_of" K68.s__law_shares_of := by
      refine' K68.defM_mk KX G ?a ?l ?c ?k
      (case a => k_is); (case l => k_is); (case c => k_is); (case k => k_is)
    have d__law_tried : K68.DefM (L2.KOf KX) mg "_law_tried" K68.s__law_tried := by
      refine' K68.defM_mk KX G ?a ?l ?c ?k
      (case a => k_is); (case l => k_is); (case c => k_is); (case k => k_is)
    have d__law_dealt : K68.DefM (L2.KOf KX) mg "_law_dealt" K68.s__law_dealt := by
      refine' K68.defM_mk KX G ?a ?l ?c ?k
      (case a => k_is); (case l => k_is); (case c => k_is); (case k => k_is)
    have d__law_shares : K68.DefM (L2.KOf KX) mg "_law_shares" K68.s__law_shares := by
      refine' K68.defM_mk KX G ?a ?l ?c ?k
      (case a => k_is); (case l => k_is); (case c => k_is); (case k => k_is)
    have d__law_fits_right : K68.DefM (L2.KOf KX) mg "_law_fits_right" K68.s__law_fits_right := by
      refine' K68.defM_mk KX G ?a ?l ?c ?k
      (case a => k_is); (case l => k_is); (case c => k_is); (case k => k_is)
    have d__law_counts : K68.DefM (L2.KOf KX) mg "_law_counts" K68.s__law_counts := by
      refine' K68.defM_mk KX G ?a ?l ?c ?k
      (case a => k_is); (case l => k_is); (case c => k_is); (case k => k_is)
    have d__law_poll_right : K68.DefM (L2.KOf KX) mg "_law_poll_right" K68.s__law_poll_right := by
      refine' K68.defM_mk KX G ?a ?l ?c ?k
      (case a => k_is); (case l => k_is); (case c => k_is); (case k => k_is)
    have d__law_stretch_right : K68.DefM (L2.KOf KX) mg "_law_stretch_right" K68.s__law_stretch_right := by
      refine' K68.defM_mk KX G ?a ?l ?c ?k
      (case a => k_is); (case l => k_is); (case c => k_is); (case k => k_is)
    have d__law_right : K68.DefM (L2.KOf KX) mg "_law_right" K68.s__law_right := by
      refine' K68.defM_mk KX G ?a ?l ?c ?k
      (case a => k_is); (case l => k_is); (case c => k_is); (case k => k_is)
    have d_law : K68.DefM (L2.KOf KX) mg "law" K68.s_law := by
      refine' K68.defM_mk KX G ?a ?l ?c ?k
      (case a => k_is); (case l => k_is); (case c => k_is); (case k => k_is)
    have d_units : K68.UnitsM (L2.KOf KX) mg := by
      refine' K68.units_mk KX G ?a ?l
      (case a => k_is); (case l => k_is)
    have d_most : K68.MostM (L2.KOf KX) mg := by
      refine' K68.most_mk KX G ?a
      (case a => k_is)
    have d_poll : K68.PollM (L2.KOf KX) mg := by
      refine' K68.poll_mk KX G (aC := ?aC) (pg := ?pg) (hd := ?hd) (po := ?po) (sa := ?sa) (mk := ?mk) (kc := ?kc) (a1 := ?a1) (i1 := ?i1) (a2 := ?a2) (i2 := ?i2) (b1 := ?b1) (e1 := ?e1) (t1 := ?t1) (rc1 := ?rc1) (b2 := ?b2) (e2 := ?e2) (t2 := ?t2) (rc2 := ?rc2) (b3 := ?b3) (e3 := ?e3) (t3 := ?t3) (rc3 := ?rc3) (l1 := ?l1) (c1 := ?c1) (k1 := ?k1) (l2 := ?l2) (c2 := ?c2) (k2 := ?k2) (l3 := ?l3) (c3 := ?c3) (k3 := ?k3) (l4 := ?l4) (c4 := ?c4) (k4 := ?k4) (l5 := ?l5) (c5 := ?c5) (k5 := ?k5) (nP := ?nP) (nS := ?nS) (nT := ?nT) (ha := ?ha) (hn := ?hn) (ht := ?ht) (hm := ?hm)
      (case aC => k_is)
      (case a1 => k_is)
      (case a2 => k_is)
      (case b1 => k_is)
      (case b2 => k_is)
      (case b3 => k_is)
      (case rc1 => k_is)
      (case rc2 => k_is)
      (case rc3 => k_is)
      (case pg => k_is)
      (case hd => k_is)
      (case po => k_is)
      (case sa => k_is)
      (case mk => k_is)
      (case kc => k_is)
      (case i1 => k_is)
      (case i2 => k_is)
      (case e1 => k_is)
      (case t1 => k_is)
      (case e2 => k_is)
      (case t2 => k_is)
      (case e3 => k_is)
      (case t3 => k_is)
      (case l1 => k_is)
      (case c1 => k_is)
      (case k1 => k_is)
      (case l2 => k_is)
      (case c2 => k_is)
      (case k2 => k_is)
      (case l3 => k_is)
      (case c3 => k_is)
      (case k3 => k_is)
      (case l4 => k_is)
      (case c4 => k_is)
      (case k4 => k_is)
      (case l5 => k_is)
      (case c5 => k_is)
      (case k5 => k_is)
      (case nP => k_is)
      (case nS => k_is)
      (case nT => k_is)
      (case ha => k_is)
      (case hn => k_is)
      (case ht => k_is)
      (case hm => k_is)
    obtain ⟨C, fi, fe, pp, ps, pt, gp, gs, gt, TP⟩ := d_poll.ex
    have T : K68.Tx (L2.KOf KX) mg C fi fe pp ps pt gp gs gt := { TP with b_isinstance := z_isinstance, b_int := z_int, b_bool := z_bool, b_tuple := z_tuple, b_len := z_len, b_all := z_all, b_str := z_str, b_max := z_max, b_min := z_min, b_sum := z_sum, b_enumerate := z_enumerate, b_range := z_range, b_list := z_list, b_abs := z_abs, b_divmod := z_divmod, b_repr := z_repr, d_is_integer := d_is_integer, d_is_within := d_is_within, d_is_natural := d_is_natural, d_is_tuple_of := d_is_tuple_of, d_are_naturals := d_are_naturals, d_numbers_text := d_numbers_text, d_next_whole := d_next_whole, d_check_people := d_check_people, d_check_poll_places := d_check_poll_places, d_check_shares := d_check_shares, d_check_poll := d_check_poll, d_unit_of := d_unit_of, d_poll_of := d_poll_of, d_share_ends := d_share_ends, d_count_stretch := d_count_stretch, d_all_ends := d_all_ends, d_does_fit := d_does_fit, d_does_fit_people := d_does_fit_people, d_first_counts := d_first_counts, d__law_well := d__law_well, d__law_draw := d__law_draw, d__law_of := d__law_of, d__law_near := d__law_near, d__law_shares_of := d__law_shares_of, d__law_tried := d__law_tried, d__law_dealt := d__law_dealt, d__law_shares := d__law_shares, d__law_fits_right := d__law_fits_right, d__law_counts := d__law_counts, d__law_poll_right := d__law_poll_right, d__law_stretch_right := d__law_stretch_right, d__law_right := d__law_right, d_law := d_law, unitsM := d_units, mostM := d_most }
    obtain ⟨fd, hb, hF⟩ := K68.law_top T hmg
    exact ⟨fd, hb, fun base _ _ => hF _ w base⟩
