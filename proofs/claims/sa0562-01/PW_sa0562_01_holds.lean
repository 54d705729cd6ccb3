import PyProof.Rows.All
import Wide.All
import OpenK.AllK
import Wide.FinOn
import Lean
import PySem.Challenge.RW_sa0562_01
open PySem PySem.W PyProof.Rows
set_option Elab.async false
set_option maxRecDepth 100000
set_option maxHeartbeats 8000000
namespace Mine
open_top hd for PySem.Challenge.rw_sa0562_01
end Mine

section
namespace Mine
abbrev Sp := Int × Int

def addGo : List Sp → Int → Int → Bool → List Sp
  | [], lo, hi, put => if put then [] else [(lo, hi)]
  | p :: r, lo, hi, put =>
    if p.2 < lo then p :: addGo r lo hi put
    else if hi < p.1 then (if put then p :: addGo r lo hi true else (lo, hi) :: p :: addGo r lo hi true)
    else addGo r (min lo p.1) (max hi p.2) put
def addSpan (xs : List Sp) (lo hi : Int) : List Sp := if hi ≤ lo then xs else addGo xs lo hi false
def cutOne (p : Sp) (lo hi : Int) : List Sp :=
  (if p.1 < min p.2 lo then [(p.1, min p.2 lo)] else []) ++ (if max p.1 hi < p.2 then [(max p.1 hi, p.2)] else [])
def cutGo (xs : List Sp) (lo hi : Int) : List Sp := xs.flatMap fun p => cutOne p lo hi
def cutSpan (xs : List Sp) (lo hi : Int) : List Sp := if lo < hi then cutGo xs lo hi else xs
def hasGo (xs : List Sp) (lo hi : Int) : Bool := xs.any fun p => decide (p.1 ≤ lo) && decide (hi ≤ p.2)
def hasSpan (xs : List Sp) (lo hi : Int) : Bool := if hi ≤ lo then true else hasGo xs lo hi
def spanCount (xs : List Sp) : Int := (xs.map fun p => p.2 - p.1).sum
def without (xs ys : List Sp) : List Sp := ys.foldl (fun f p => cutSpan f p.1 p.2) xs
def both (xs ys : List Sp) : List Sp := ys.foldl (fun f p => addSpan f p.1 p.2) xs
def common (xs ys : List Sp) : List Sp := without xs (without xs ys)
def apart (xs ys : List Sp) : List Sp := both (without xs ys) (without ys xs)
def rngGo : List Sp → Int → Int → Bool → List Sp
  | [], lo, hi, put => if put then [] else [(lo, hi)]
  | p :: r, lo, hi, put =>
    if hi + 1 < p.1 then p :: rngGo r lo hi put
    else if p.2 < lo - 1 then (if put then p :: rngGo r lo hi true else (lo, hi) :: p :: rngGo r lo hi true)
    else rngGo r (min lo p.1) (max hi p.2) put
def addRange (xs : List Sp) (lo hi : Int) : List Sp := rngGo xs lo hi false
def lawRanges (xs : List Sp) : List Sp := xs.foldl (fun f p => addRange f p.1 (p.2 - 1)) []
def countOf (xs : List Sp) : Int := (xs.map fun p => p.2 - p.1 + 1).sum
def prune (xs : List Sp) (low : Int) : List Sp := (xs.filter fun p => decide (low ≤ p.2)).map fun p => (max p.1 low, p.2)
def rightGo : Option Int → List Sp → Bool
  | _, [] => true
  | none, p :: r => decide (0 ≤ p.1) && decide (p.1 ≤ p.2) && rightGo (some p.1) r
  | some c, p :: r => decide (0 ≤ p.1) && decide (p.1 ≤ p.2) && decide (p.2 < c - 1) && rightGo (some p.1) r
def areRight (xs : List Sp) : Bool := rightGo none xs

/-! ## sets -/
def Mem (xs : List Sp) (n : Int) : Prop := ∃ p ∈ xs, p.1 ≤ n ∧ n < p.2
def Canon : List Sp → Prop
  | [] => True
  | p :: r => p.1 < p.2 ∧ (∀ q ∈ r, p.2 < q.1) ∧ Canon r

theorem mem_nil (n : Int) : Mem [] n ↔ False := by simp [Mem]
theorem mem_cons (p : Sp) (r : List Sp) (n : Int) : Mem (p :: r) n ↔ (p.1 ≤ n ∧ n < p.2) ∨ Mem r n := by simp [Mem]
theorem mem_append (xs ys : List Sp) (n : Int) : Mem (xs ++ ys) n ↔ Mem xs n ∨ Mem ys n := by
  simp only [Mem, List.mem_append]
  constructor
  · rintro ⟨p, h | h, q⟩
    · exact .inl ⟨p, h, q⟩
    · exact .inr ⟨p, h, q⟩
  · rintro (⟨p, h, q⟩ | ⟨p, h, q⟩)
    · exact ⟨p, .inl h, q⟩
    · exact ⟨p, .inr h, q⟩
theorem canon_pos : ∀ {xs : List Sp}, Canon xs → ∀ p ∈ xs, p.1 < p.2
  | _ :: r, h, q, hq => by
    rcases List.mem_cons.mp hq with rfl | hq
    · exact h.1
    · exact canon_pos (xs := r) h.2.2 q hq
theorem mem_above {xs : List Sp} {b n : Int} (h : ∀ p ∈ xs, b < p.1) (m : Mem xs n) : b < n := by
  obtain ⟨p, hp, h1, _⟩ := m
  have := h p hp
  omega
theorem canon_ext : ∀ {xs ys : List Sp}, Canon xs → Canon ys → (∀ n, Mem xs n ↔ Mem ys n) → xs = ys
  | [], [], _, _, _ => rfl
  | [], q :: t, _, hy, h => by
    have := (h q.1).mpr ((mem_cons ..).mpr (.inl ⟨Int.le_refl _, hy.1⟩))
    exact ((mem_nil _).mp this).elim
  | p :: r, [], hx, _, h => by
    have := (h p.1).mp ((mem_cons ..).mpr (.inl ⟨Int.le_refl _, hx.1⟩))
    exact ((mem_nil _).mp this).elim
  | p :: r, q :: t, hx, hy, h => by
    have a1 : q.1 ≤ p.1 := by
      rcases (mem_cons ..).mp ((h p.1).mp ((mem_cons ..).mpr (.inl ⟨Int.le_refl _, hx.1⟩))) with m | m
      · exact m.1
      · have := mem_above hy.2.1 m
        have := hy.1
        omega
    have a2 : p.1 ≤ q.1 := by
      rcases (mem_cons ..).mp ((h q.1).mpr ((mem_cons ..).mpr (.inl ⟨Int.le_refl _, hy.1⟩))) with m | m
      · exact m.1
      · have := mem_above hx.2.1 m
        have := hx.1
        omega
    have h1 := hx.1
    have h2 := hy.1
    have b1 : p.2 ≤ q.2 := by
      rcases Int.lt_or_le q.2 p.2 with l | l
      · rcases (mem_cons ..).mp ((h q.2).mp ((mem_cons ..).mpr (.inl ⟨by omega, l⟩))) with m | m
        · omega
        · have := mem_above hy.2.1 m
          omega
      · exact l
    have b2 : q.2 ≤ p.2 := by
      rcases Int.lt_or_le p.2 q.2 with l | l
      · rcases (mem_cons ..).mp ((h p.2).mpr ((mem_cons ..).mpr (.inl ⟨by omega, l⟩))) with m | m
        · omega
        · have := mem_above hx.2.1 m
          omega
      · exact l
    have e : p = q := Prod.ext (by omega) (by omega)
    subst e
    have ht : r = t := canon_ext hx.2.2 hy.2.2 fun n => by
      constructor
      · intro m
        have l := mem_above hx.2.1 m
        rcases (mem_cons ..).mp ((h n).mp ((mem_cons ..).mpr (.inr m))) with k | k
        · omega
        · exact k
      · intro m
        have l := mem_above hy.2.1 m
        rcases (mem_cons ..).mp ((h n).mpr ((mem_cons ..).mpr (.inr m))) with k | k
        · omega
        · exact k
    rw [ht]

/-! ## add -/
theorem addGo_true : ∀ {xs : List Sp} {lo hi : Int}, Canon xs → lo < hi → (∀ p ∈ xs, hi < p.1) → addGo xs lo hi true = xs
  | [], _, _, _, _, _ => rfl
  | p :: r, lo, hi, c, l, h => by
    have h1 := h p (.head _)
    have h2 := c.1
    have e : addGo r lo hi true = r := addGo_true c.2.2 l fun q hq => h q (.tail _ hq)
    have n1 : ¬ p.2 < lo := by omega
    simp only [addGo, n1, h1, if_true, if_false, e]
theorem addGo_spec : ∀ {xs : List Sp} {lo hi : Int}, Canon xs → lo < hi →
    Canon (addGo xs lo hi false) ∧ (∀ n, Mem (addGo xs lo hi false) n ↔ Mem xs n ∨ (lo ≤ n ∧ n < hi)) ∧ (∀ b, b < lo → (∀ p ∈ xs, b < p.1) → ∀ p ∈ addGo xs lo hi false, b < p.1)
  | [], lo, hi, _, l => by
    refine ⟨⟨l, by simp, trivial⟩, fun n => ?_, fun b hb _ p hp => ?_⟩
    · simp [addGo, mem_cons, mem_nil]
    · simp only [addGo, Bool.false_eq_true, if_false, List.mem_singleton] at hp
      subst hp
      exact hb
  | p :: r, lo, hi, c, l => by
    have h2 := c.1
    by_cases n1 : p.2 < lo
    · obtain ⟨i1, i2, i3⟩ := addGo_spec (xs := r) c.2.2 l
      simp only [addGo, n1, if_true]
      refine ⟨⟨h2, i3 p.2 n1 c.2.1, i1⟩, fun n => ?_, fun b hb hx q hq => ?_⟩
      · rw [mem_cons, mem_cons, i2 n]
        constructor
        · rintro (h | h | h)
          · exact .inl (.inl h)
          · exact .inl (.inr h)
          · exact .inr h
        · rintro ((h | h) | h)
          · exact .inl h
          · exact .inr (.inl h)
          · exact .inr (.inr h)
      · rcases List.mem_cons.mp hq with rfl | hq
        · exact hx _ (.head _)
        · exact i3 b hb (fun z hz => hx z (.tail _ hz)) q hq
    · by_cases n2 : hi < p.1
      · have e : addGo r lo hi true = r := addGo_true c.2.2 l fun q hq => by
          have := c.2.1 q hq
          omega
        simp only [addGo, n1, n2, if_true, if_false, e, Bool.false_eq_true]
        refine ⟨⟨l, fun q hq => ?_, c⟩, fun n => ?_, fun b hb hx q hq => ?_⟩
        · rcases List.mem_cons.mp hq with rfl | hq
          · exact n2
          · have := c.2.1 q hq
            show hi < q.1
            omega
        · rw [mem_cons]
          exact Or.comm
        · rcases List.mem_cons.mp hq with rfl | hq
          · exact hb
          · exact hx q hq
      · have l' : min lo p.1 < max hi p.2 := by omega
        obtain ⟨i1, i2, i3⟩ := addGo_spec (xs := r) c.2.2 l'
        simp only [addGo, n1, n2, if_false]
        refine ⟨i1, fun n => ?_, fun b hb hx q hq => ?_⟩
        · rw [mem_cons, i2 n]
          constructor
          · rintro (h | h)
            · exact .inl (.inr h)
            · by_cases g : p.1 ≤ n ∧ n < p.2
              · exact .inl (.inl g)
              · exact .inr (by omega)
          · rintro ((h | h) | h)
            · exact .inr (by omega)
            · exact .inl h
            · exact .inr (by omega)
        · have := hx p (.head _)
          exact i3 b (by omega) (fun z hz => hx z (.tail _ hz)) q hq
theorem addSpan_canon {xs : List Sp} {lo hi : Int} (c : Canon xs) : Canon (addSpan xs lo hi) := by
  unfold addSpan
  split
  · exact c
  · exact (addGo_spec c (by omega)).1
theorem addSpan_mem {xs : List Sp} {lo hi : Int} (c : Canon xs) (n : Int) : Mem (addSpan xs lo hi) n ↔ Mem xs n ∨ (lo ≤ n ∧ n < hi) := by
  unfold addSpan
  split
  · constructor
    · exact .inl
    · rintro (h | h)
      · exact h
      · omega
  · exact (addGo_spec c (by omega)).2.1 n

theorem addGo_below {p : Sp} {r : List Sp} {lo hi : Int} {put : Bool} (h : p.2 < lo) : addGo (p :: r) lo hi put = p :: addGo r lo hi put := by
  simp only [addGo, h, if_true]
theorem addGo_put {p : Sp} {r : List Sp} {lo hi : Int} (h : ¬ p.2 < lo) (h2 : hi < p.1) : addGo (p :: r) lo hi true = p :: addGo r lo hi true := by
  simp only [addGo, h, h2, if_true, if_false]
theorem addGo_new {p : Sp} {r : List Sp} {lo hi : Int} (h : ¬ p.2 < lo) (h2 : hi < p.1) : addGo (p :: r) lo hi false = (lo, hi) :: p :: addGo r lo hi true := by
  simp only [addGo, h, h2, if_true, if_false, Bool.false_eq_true]
theorem addGo_join {p : Sp} {r : List Sp} {lo hi : Int} {put : Bool} (h : ¬ p.2 < lo) (h2 : ¬ hi < p.1) : addGo (p :: r) lo hi put = addGo r (min lo p.1) (max hi p.2) put := by
  simp only [addGo, h, h2, if_false]

/-! ## cut -/
theorem cutOne_above {p : Sp} {lo hi b : Int} (h : b < p.1) : ∀ q ∈ cutOne p lo hi, b < q.1 := by
  intro q hq
  unfold cutOne at hq
  rcases List.mem_append.mp hq with hq | hq
  · split at hq
    · rw [List.mem_singleton.mp hq]; exact h
    · nomatch hq
  · split at hq
    · rw [List.mem_singleton.mp hq]; show b < max p.1 hi; omega
    · nomatch hq
theorem cutOne_below {p : Sp} {lo hi b : Int} (h : p.2 < b) : ∀ q ∈ cutOne p lo hi, q.2 < b := by
  intro q hq
  unfold cutOne at hq
  rcases List.mem_append.mp hq with hq | hq
  · split at hq
    · rw [List.mem_singleton.mp hq]; show min p.2 lo < b; omega
    · nomatch hq
  · split at hq
    · rw [List.mem_singleton.mp hq]; exact h
    · nomatch hq
theorem cutOne_canon {p : Sp} {lo hi : Int} (l : lo < hi) : Canon (cutOne p lo hi) := by
  unfold cutOne
  by_cases h1 : p.1 < min p.2 lo
  · by_cases h2 : max p.1 hi < p.2
    · simp only [h1, h2, if_true, List.singleton_append, Canon, List.mem_singleton]
      refine ⟨trivial, fun q hq => ?_, trivial, by simp, trivial⟩
      subst hq
      show min p.2 lo < max p.1 hi
      omega
    · simp only [h1, h2, if_true, if_false, List.append_nil, Canon]
      exact ⟨trivial, by simp, trivial⟩
  · by_cases h2 : max p.1 hi < p.2
    · simp only [h1, h2, if_true, if_false, List.nil_append, Canon]
      exact ⟨trivial, by simp, trivial⟩
    · simp only [h1, h2, if_false, List.append_nil, Canon]
theorem cutOne_mem (p : Sp) {lo hi : Int} (l : lo < hi) (n : Int) : Mem (cutOne p lo hi) n ↔ (p.1 ≤ n ∧ n < p.2) ∧ ¬ (lo ≤ n ∧ n < hi) := by
  unfold cutOne
  rw [mem_append]
  by_cases h1 : p.1 < min p.2 lo <;> by_cases h2 : max p.1 hi < p.2 <;> simp only [h1, h2, if_true, if_false, mem_cons, mem_nil, or_false, false_or] <;> constructor <;> intro h <;> first | exact h.elim | (exfalso; omega) | omega
theorem canon_append : ∀ {xs ys : List Sp}, Canon xs → Canon ys → (∀ p ∈ xs, ∀ q ∈ ys, p.2 < q.1) → Canon (xs ++ ys)
  | [], _, _, hy, _ => hy
  | p :: r, ys, hx, hy, h => ⟨hx.1, fun q hq => (List.mem_append.mp hq).elim (hx.2.1 q) (h p (.head _) q), canon_append hx.2.2 hy fun a ha => h a (.tail _ ha)⟩
theorem cutGo_above {lo hi b : Int} : ∀ {xs : List Sp}, (∀ p ∈ xs, b < p.1) → ∀ q ∈ cutGo xs lo hi, b < q.1 := by
  intro xs h q hq
  obtain ⟨p, hp, hq⟩ := List.mem_flatMap.mp hq
  exact cutOne_above (h p hp) q hq
theorem cutGo_canon {lo hi : Int} (l : lo < hi) : ∀ {xs : List Sp}, Canon xs → Canon (cutGo xs lo hi)
  | [], _ => trivial
  | p :: r, c => by
    show Canon (cutOne p lo hi ++ cutGo r lo hi)
    refine canon_append (cutOne_canon l) (cutGo_canon l c.2.2) fun a ha q hq => ?_
    have h1 : p.2 < q.1 := cutGo_above c.2.1 q hq
    exact cutOne_below h1 a ha
theorem cutGo_mem {lo hi : Int} (l : lo < hi) (n : Int) : ∀ (xs : List Sp), Mem (cutGo xs lo hi) n ↔ Mem xs n ∧ ¬ (lo ≤ n ∧ n < hi)
  | [] => by simp [cutGo, mem_nil]
  | p :: r => by
    show Mem (cutOne p lo hi ++ cutGo r lo hi) n ↔ _
    rw [mem_append, mem_cons, cutGo_mem l n r, cutOne_mem p l n]
    constructor
    · rintro (h | h)
      · exact ⟨.inl h.1, h.2⟩
      · exact ⟨.inr h.1, h.2⟩
    · rintro ⟨h | h, k⟩
      · exact .inl ⟨h, k⟩
      · exact .inr ⟨h, k⟩
theorem cutSpan_canon {xs : List Sp} {lo hi : Int} (c : Canon xs) : Canon (cutSpan xs lo hi) := by
  unfold cutSpan
  split
  · exact cutGo_canon (by assumption) c
  · exact c
theorem cutSpan_mem (xs : List Sp) (lo hi n : Int) : Mem (cutSpan xs lo hi) n ↔ Mem xs n ∧ ¬ (lo ≤ n ∧ n < hi) := by
  unfold cutSpan
  split
  · exact cutGo_mem (by assumption) n xs
  · constructor
    · exact fun h => ⟨h, by omega⟩
    · exact fun h => h.1

theorem mn_eq (a b : Int) : (if b < a then b else a) = min a b := by split <;> omega
theorem mx_eq (a b : Int) : (if b > a then b else a) = max a b := by split <;> omega
theorem cut_step {acc all r : List Sp} {x y low high : Int} (he : acc ++ cutGo ((x, y) :: r) low high = all) : acc ++ cutOne (x, y) low high ++ cutGo r low high = all := by
  rw [← he, List.append_assoc]
  rfl
theorem cutOne_both {x y low high : Int} (h1 : x < min y low) (h2 : max x high < y) : cutOne (x, y) low high = [(x, min y low), (max x high, y)] := by
  unfold cutOne
  rw [if_pos h1, if_pos h2]
  rfl
theorem cutOne_low {x y low high : Int} (h1 : x < min y low) (h2 : ¬ max x high < y) : cutOne (x, y) low high = [(x, min y low)] := by
  unfold cutOne
  rw [if_pos h1, if_neg h2]
  rfl
theorem cutOne_high {x y low high : Int} (h1 : ¬ x < min y low) (h2 : max x high < y) : cutOne (x, y) low high = [(max x high, y)] := by
  unfold cutOne
  rw [if_neg h1, if_pos h2]
  rfl
theorem cutOne_none {x y low high : Int} (h1 : ¬ x < min y low) (h2 : ¬ max x high < y) : cutOne (x, y) low high = [] := by
  unfold cutOne
  rw [if_neg h1, if_neg h2]
  rfl

/-! ## folds -/
theorem without_canon : ∀ {ys xs : List Sp}, Canon xs → Canon (without xs ys)
  | [], _, c => c
  | p :: r, xs, c => without_canon (ys := r) (xs := cutSpan xs p.1 p.2) (cutSpan_canon c)
theorem without_mem (n : Int) : ∀ (ys xs : List Sp), Mem (without xs ys) n ↔ Mem xs n ∧ ¬ Mem ys n
  | [], xs => by simp [without, mem_nil]
  | p :: r, xs => by
    show Mem (without (cutSpan xs p.1 p.2) r) n ↔ _
    rw [without_mem n r, cutSpan_mem, mem_cons]
    constructor
    · rintro ⟨⟨a, b⟩, c⟩
      exact ⟨a, fun h => h.elim b c⟩
    · rintro ⟨a, b⟩
      exact ⟨⟨a, fun h => b (.inl h)⟩, fun h => b (.inr h)⟩
theorem both_canon : ∀ {ys xs : List Sp}, Canon xs → Canon (both xs ys)
  | [], _, c => c
  | p :: r, xs, c => both_canon (ys := r) (xs := addSpan xs p.1 p.2) (addSpan_canon c)
theorem both_mem (n : Int) : ∀ (ys : List Sp) {xs : List Sp}, Canon xs → (Mem (both xs ys) n ↔ Mem xs n ∨ Mem ys n)
  | [], xs, _ => by simp [both, mem_nil]
  | p :: r, xs, c => by
    show Mem (both (addSpan xs p.1 p.2) r) n ↔ _
    rw [both_mem n r (addSpan_canon c), addSpan_mem c, mem_cons, or_assoc]
theorem common_canon {xs ys : List Sp} (c : Canon xs) : Canon (common xs ys) := without_canon c
theorem common_mem (n : Int) (xs ys : List Sp) : Mem (common xs ys) n ↔ Mem xs n ∧ Mem ys n := by
  unfold common
  rw [without_mem, without_mem]
  constructor
  · rintro ⟨a, b⟩
    refine ⟨a, ?_⟩
    by_cases h : Mem ys n
    · exact h
    · exact absurd ⟨a, h⟩ b
  · rintro ⟨a, b⟩
    exact ⟨a, fun h => h.2 b⟩
theorem apart_canon {xs ys : List Sp} (c : Canon xs) : Canon (apart xs ys) := both_canon (without_canon c)
theorem apart_mem (n : Int) {xs ys : List Sp} (c : Canon xs) : Mem (apart xs ys) n ↔ (Mem xs n ∧ ¬ Mem ys n) ∨ (Mem ys n ∧ ¬ Mem xs n) := by
  unfold apart
  rw [both_mem n _ (without_canon c), without_mem, without_mem]

/-! ## the ring -/
section
variable {a b c : List Sp} (ha : Canon a) (hb : Canon b) (hc : Canon c)
include ha hb
theorem both_comm : both a b = both b a :=
  canon_ext (both_canon ha) (both_canon hb) fun n => by rw [both_mem n _ ha, both_mem n _ hb, or_comm]
theorem common_comm : common a b = common b a :=
  canon_ext (common_canon ha) (common_canon hb) fun n => by rw [common_mem, common_mem, and_comm]
include hc
theorem both_assoc : both (both a b) c = both a (both b c) :=
  canon_ext (both_canon (both_canon ha)) (both_canon ha) fun n => by rw [both_mem n _ (both_canon ha), both_mem n _ ha, both_mem n _ ha, both_mem n _ hb, or_assoc]
theorem common_both : common a (both b c) = both (common a b) (common a c) :=
  canon_ext (common_canon ha) (both_canon (common_canon ha)) fun n => by rw [common_mem, both_mem n _ hb, both_mem n _ (common_canon ha), common_mem, common_mem, and_or_left]
theorem apart_assoc : apart (apart a b) c = apart a (apart b c) :=
  canon_ext (apart_canon (apart_canon ha)) (apart_canon ha) fun n => by
    rw [apart_mem n (apart_canon ha), apart_mem n ha, apart_mem n ha, apart_mem n hb]
    by_cases x : Mem a n <;> by_cases y : Mem b n <;> by_cases z : Mem c n <;> simp [x, y, z]
end
theorem apart_self {a : List Sp} (ha : Canon a) : apart a a = [] :=
  canon_ext (apart_canon ha) trivial fun n => by
    rw [apart_mem n ha, mem_nil]
    by_cases x : Mem a n <;> simp [x]
theorem de_morgan {w a b : List Sp} (hw : Canon w) (ha : Canon a) : without w (both a b) = common (without w a) (without w b) :=
  canon_ext (without_canon hw) (common_canon (without_canon hw)) fun n => by
    rw [without_mem, both_mem n _ ha, common_mem, without_mem, without_mem]
    by_cases x : Mem w n <;> by_cases y : Mem a n <;> by_cases z : Mem b n <;> simp [x, y, z]

/-! ## count -/
open Classical in
noncomputable def cnt (P : Int → Prop) (l : Int) : Nat → Int
  | 0 => 0
  | k + 1 => (if P l then 1 else 0) + cnt P (l + 1) k
theorem cnt_congr {P Q : Int → Prop} : ∀ (k : Nat) (l : Int), (∀ n, l ≤ n → (P n ↔ Q n)) → cnt P l k = cnt Q l k
  | 0, _, _ => rfl
  | k + 1, l, h => by
    have ih := cnt_congr k (l + 1) fun n hn => h n (by omega)
    by_cases x : P l
    · have y : Q l := (h l (Int.le_refl _)).mp x
      simp only [cnt, x, y, if_true, ih]
    · have y : ¬ Q l := fun z => x ((h l (Int.le_refl _)).mpr z)
      simp only [cnt, x, y, if_false, ih]
theorem cnt_none {P : Int → Prop} : ∀ (k : Nat) (l : Int), (∀ n, l ≤ n → ¬ P n) → cnt P l k = 0
  | 0, _, _ => rfl
  | k + 1, l, h => by
    have e : ¬ P l := h l (Int.le_refl _)
    simp only [cnt, e, if_false, cnt_none k (l + 1) fun n hn => h n (by omega)]
    omega
theorem cnt_add {P Q R S : Int → Prop} (h : ∀ n, (P n ↔ R n ∨ S n) ∧ (Q n ↔ R n ∧ S n)) : ∀ (k : Nat) (l : Int), cnt P l k + cnt Q l k = cnt R l k + cnt S l k
  | 0, _ => rfl
  | k + 1, l => by
    have ih := cnt_add h k (l + 1)
    obtain ⟨h1, h2⟩ := h l
    by_cases x : R l <;> by_cases y : S l <;> simp only [x, y, or_true, or_false, and_true, and_false, iff_true, iff_false] at h1 h2 <;> simp only [cnt, x, y, h1, h2, if_true, if_false] <;> omega
theorem cnt_first {P Q : Int → Prop} {b : Int} : ∀ (k : Nat) (l : Int), b ≤ l + k → l ≤ b → (∀ n, P n ↔ (l ≤ n ∧ n < b) ∨ Q n) → (∀ n, Q n → b < n) → cnt P l k = (b - l) + cnt Q l k
  | 0, l, h1, h2, _, _ => by simp only [cnt]; omega
  | k + 1, l, h1, h2, h, hq => by
    by_cases e : l = b
    · subst e
      rw [cnt_congr (k + 1) l (P := P) (Q := Q) fun n hn => by
        rw [h n]
        constructor
        · rintro (x | x)
          · omega
          · exact x
        · exact .inr]
      omega
    · have p : P l := (h l).mpr (.inl (by omega))
      have q : ¬ Q l := fun x => by have := hq l x; omega
      have ih := cnt_first (P := fun n => (l + 1 ≤ n ∧ n < b) ∨ Q n) (Q := Q) k (l + 1) (by omega) (by omega) (fun n => Iff.rfl) hq
      have e2 : cnt P (l + 1) k = cnt (fun n => (l + 1 ≤ n ∧ n < b) ∨ Q n) (l + 1) k := cnt_congr k (l + 1) fun n hn => by
        rw [h n]
        constructor
        · rintro (x | x)
          · exact .inl (by omega)
          · exact .inr x
        · rintro (x | x)
          · exact .inl (by omega)
          · exact .inr x
      simp only [cnt, p, q, if_true, if_false]
      rw [e2, ih]
      omega
theorem cnt_skip {P : Int → Prop} : ∀ (j k : Nat) (l : Int), (∀ n, P n → l + j ≤ n) → cnt P l (j + k) = cnt P (l + j) k
  | 0, k, l, _ => by simp
  | j + 1, k, l, h => by
    have q : ¬ P l := fun x => by have := h l x; omega
    have e : j + 1 + k = (j + k) + 1 := by omega
    have ih := cnt_skip (P := P) j k (l + 1) fun n hn => by have := h n hn; omega
    rw [e]
    simp only [cnt, q, if_false]
    rw [ih]
    have e2 : l + 1 + (j : Int) = l + ((j + 1 : Nat) : Int) := by omega
    rw [e2]
    omega
theorem spanCount_cnt : ∀ (xs : List Sp) (l : Int) (k : Nat), Canon xs → (∀ p ∈ xs, l ≤ p.1 ∧ p.2 ≤ l + k) → spanCount xs = cnt (Mem xs) l k
  | [], l, k, _, _ => by
    rw [cnt_none k l fun n _ m => (mem_nil n).mp m]
    rfl
  | p :: r, l, k, c, h => by
    have h1 := h p (.head _)
    have h2 := c.1
    have e : spanCount (p :: r) = (p.2 - p.1) + spanCount r := by simp [spanCount]
    obtain ⟨j, hj⟩ : ∃ j : Nat, p.1 = l + j := ⟨(p.1 - l).toNat, by omega⟩
    obtain ⟨i, hi⟩ : ∃ i : Nat, k = j + i := ⟨k - j, by omega⟩
    have ih := spanCount_cnt r p.1 i c.2.2 fun q hq => by
      have := c.2.1 q hq
      have := h q (.tail _ hq)
      omega
    subst hi
    rw [cnt_skip j i l fun n m => by
      rcases (mem_cons ..).mp m with m | m
      · omega
      · have := mem_above c.2.1 m
        omega, ← hj, e, ih]
    refine (cnt_first i p.1 (by omega) (by omega) (fun n => mem_cons p r n) fun n m => mem_above c.2.1 m).symm
def In (l h : Int) (xs : List Sp) : Prop := ∀ p ∈ xs, l ≤ p.1 ∧ p.2 ≤ h
theorem in_of_mem {l h : Int} {xs : List Sp} (c : Canon xs) (m : ∀ n, Mem xs n → l ≤ n ∧ n < h) : In l h xs := by
  intro p hp
  have h0 := canon_pos c p hp
  have h1 := m p.1 ⟨p, hp, by omega, by omega⟩
  have h2 := m (p.2 - 1) ⟨p, hp, by omega, by omega⟩
  omega
theorem mem_of_in {l h : Int} {xs : List Sp} (i : In l h xs) (n : Int) (m : Mem xs n) : l ≤ n ∧ n < h := by
  obtain ⟨p, hp, h1, h2⟩ := m
  have := i p hp
  omega
theorem addSpan_in {l h lo hi : Int} {xs : List Sp} (c : Canon xs) (i : In l h xs) (h1 : l ≤ lo) (h2 : hi ≤ h) : In l h (addSpan xs lo hi) :=
  in_of_mem (addSpan_canon c) fun n m => by
    rcases (addSpan_mem c n).mp m with m | m
    · exact mem_of_in i n m
    · omega
theorem count_law {a b : List Sp} (ha : Canon a) (hb : Canon b) (ia : In 0 20 a) (ib : In 0 20 b) : spanCount (both a b) + spanCount (common a b) = spanCount a + spanCount b := by
  have i1 : In 0 20 (both a b) := in_of_mem (both_canon ha) fun n m => ((both_mem n _ ha).mp m).elim (mem_of_in ia n) (mem_of_in ib n)
  have i2 : In 0 20 (common a b) := in_of_mem (common_canon ha) fun n m => mem_of_in ia n ((common_mem n _ _).mp m).1
  rw [spanCount_cnt _ 0 20 (both_canon ha) i1, spanCount_cnt _ 0 20 (common_canon ha) i2, spanCount_cnt _ 0 20 ha ia, spanCount_cnt _ 0 20 hb ib]
  exact cnt_add (fun n => ⟨both_mem n _ ha, common_mem n _ _⟩) 20 0

theorem canon_length : ∀ {xs : List Sp} {l h : Int}, Canon xs → In l h xs → l ≤ h → (xs.length : Int) ≤ h - l
  | [], l, h, _, _, k => by simp; omega
  | p :: r, l, h, c, i, k => by
    have h1 := c.1
    have h2 := i p (.head _)
    have ih := canon_length (xs := r) (l := p.2) (h := h) c.2.2 (fun q hq => ⟨Int.le_of_lt (c.2.1 q hq), (i q (.tail _ hq)).2⟩) h2.2
    simp only [List.length_cons]
    omega
/-- a lot: spans in their one form, below 20 -/
def Good (xs : List Sp) : Prop := Canon xs ∧ In 0 20 xs
theorem Good.len {xs : List Sp} (h : Good xs) : xs.length ≤ 20 := by
  have := canon_length h.1 h.2 (by omega)
  omega
theorem Good.cut {xs : List Sp} (h : Good xs) (lo hi : Int) : Good (cutSpan xs lo hi) :=
  ⟨cutSpan_canon h.1, in_of_mem (cutSpan_canon h.1) fun n m => mem_of_in h.2 n ((cutSpan_mem ..).mp m).1⟩
theorem Good.add {xs : List Sp} (h : Good xs) {lo hi : Int} (h1 : 0 ≤ lo) (h2 : hi ≤ 20) : Good (addSpan xs lo hi) := ⟨addSpan_canon h.1, addSpan_in h.1 h.2 h1 h2⟩
theorem Good.without {xs : List Sp} (h : Good xs) (ys : List Sp) : Good (without xs ys) :=
  ⟨without_canon h.1, in_of_mem (without_canon h.1) fun n m => mem_of_in h.2 n ((without_mem ..).mp m).1⟩
theorem Good.both {xs ys : List Sp} (h : Good xs) (k : In 0 20 ys) : Good (both xs ys) :=
  ⟨both_canon h.1, in_of_mem (both_canon h.1) fun n m => ((both_mem n _ h.1).mp m).elim (mem_of_in h.2 n) (mem_of_in k n)⟩
theorem Good.common {xs : List Sp} (h : Good xs) (ys : List Sp) : Good (common xs ys) := h.without _
theorem Good.apart {xs ys : List Sp} (h : Good xs) (k : Good ys) : Good (apart xs ys) := (h.without ys).both (k.without xs).2
theorem Good.nil : Good [] := ⟨trivial, fun _ h => nomatch h⟩
theorem Good.one {lo hi : Int} (h1 : 0 ≤ lo) (h2 : lo < hi) (h3 : hi ≤ 20) : Good [(lo, hi)] := by
  refine ⟨⟨h2, (fun _ h => nomatch h), trivial⟩, fun p hp => ?_⟩
  rw [List.mem_singleton.mp hp]
  exact ⟨h1, h3⟩

/-! ## has -/
theorem has_law {a : List Sp} {lo hi : Int} (ha : Canon a) (l : lo < hi) : hasSpan a lo hi = decide (common a [(lo, hi)] = [(lo, hi)]) := by
  have c1 : Canon [(lo, hi)] := ⟨l, by simp, trivial⟩
  have e : common a [(lo, hi)] = [(lo, hi)] ↔ ∀ n, lo ≤ n → n < hi → Mem a n := by
    constructor
    · intro h n h1 h2
      have : Mem [(lo, hi)] n := (mem_cons ..).mpr (.inl ⟨h1, h2⟩)
      rw [← h] at this
      exact ((common_mem ..).mp this).1
    · intro h
      refine canon_ext (common_canon ha) c1 fun n => ?_
      rw [common_mem]
      constructor
      · exact fun x => x.2
      · intro x
        rcases (mem_cons ..).mp x with y | y
        · exact ⟨h n y.1 y.2, x⟩
        · exact ((mem_nil _).mp y).elim
  have f : ∀ {xs : List Sp}, Canon xs → (∀ n, lo ≤ n → n < hi → Mem xs n) → ∃ p ∈ xs, p.1 ≤ lo ∧ hi ≤ p.2 := by
    intro xs
    induction xs with
    | nil =>
      intro _ h
      exact ((mem_nil _).mp (h lo (by omega) l)).elim
    | cons p r ih =>
      intro c h
      by_cases g : lo < p.2
      · refine ⟨p, .head _, ?_⟩
        constructor
        · rcases (mem_cons ..).mp (h lo (by omega) l) with m | m
          · exact m.1
          · have := mem_above c.2.1 m
            omega
        · rcases Int.lt_or_le p.2 hi with k | k
          · rcases (mem_cons ..).mp (h p.2 (by omega) k) with m | m
            · omega
            · have := mem_above c.2.1 m
              omega
          · exact k
      · obtain ⟨q, hq, x⟩ := ih c.2.2 fun n h1 h2 => by
          rcases (mem_cons ..).mp (h n h1 h2) with m | m
          · omega
          · exact m
        exact ⟨q, .tail _ hq, x⟩
  have n1 : ¬ hi ≤ lo := by omega
  rw [hasSpan, if_neg n1, Bool.eq_iff_iff, decide_eq_true_iff, e]
  unfold hasGo
  rw [List.any_eq_true]
  constructor
  · rintro ⟨p, hp, h⟩ n h1 h2
    simp only [Bool.and_eq_true, decide_eq_true_eq] at h
    exact ⟨p, hp, by omega, by omega⟩
  · intro h
    obtain ⟨p, hp, h1, h2⟩ := f ha h
    exact ⟨p, hp, by simp [h1, h2]⟩

/-! ## ranges -/
def conv (p : Sp) : Sp := (p.1, p.2 - 1)
def neg (p : Sp) : Sp := (-p.2, -p.1 + 1)
theorem rngGo_neg : ∀ (xs : List Sp) (lo hi : Int) (put : Bool), (rngGo xs lo hi put).map neg = addGo (xs.map neg) (-hi) (-lo + 1) put
  | [], lo, hi, put => by cases put <;> simp [rngGo, addGo, neg]
  | p :: r, lo, hi, put => by
    have e1 : (neg p).2 < -hi ↔ hi + 1 < p.1 := by simp only [neg]; omega
    have e2 : -lo + 1 < (neg p).1 ↔ p.2 < lo - 1 := by simp only [neg]; omega
    have e3 : min (-hi) (neg p).1 = -(max hi p.2) := by simp only [neg]; omega
    have e4 : max (-lo + 1) (neg p).2 = -(min lo p.1) + 1 := by simp only [neg]; omega
    simp only [rngGo, List.map_cons, addGo, e1, e2, e3, e4]
    by_cases h1 : hi + 1 < p.1
    · simp only [h1, if_true, List.map_cons, rngGo_neg r]
    · by_cases h2 : p.2 < lo - 1
      · cases put <;> simp [h1, h2, rngGo_neg r, neg]
      · simp only [h1, h2, if_false, rngGo_neg r]
theorem addRange_neg (xs : List Sp) {lo hi : Int} (h : lo ≤ hi) : (addRange xs lo hi).map neg = addSpan (xs.map neg) (-hi) (-lo + 1) := by
  unfold addRange addSpan
  rw [rngGo_neg, if_neg (by omega)]
theorem rngGo_above {p : Sp} {r : List Sp} {lo hi : Int} {put : Bool} (h : hi + 1 < p.1) : rngGo (p :: r) lo hi put = p :: rngGo r lo hi put := by
  simp only [rngGo, h, if_true]
theorem rngGo_put {p : Sp} {r : List Sp} {lo hi : Int} (h : ¬ hi + 1 < p.1) (h2 : p.2 < lo - 1) : rngGo (p :: r) lo hi true = p :: rngGo r lo hi true := by
  simp only [rngGo, h, h2, if_true, if_false]
theorem rngGo_new {p : Sp} {r : List Sp} {lo hi : Int} (h : ¬ hi + 1 < p.1) (h2 : p.2 < lo - 1) : rngGo (p :: r) lo hi false = (lo, hi) :: p :: rngGo r lo hi true := by
  simp only [rngGo, h, h2, if_true, if_false, Bool.false_eq_true]
theorem rngGo_join {p : Sp} {r : List Sp} {lo hi : Int} {put : Bool} (h : ¬ hi + 1 < p.1) (h2 : ¬ p.2 < lo - 1) : rngGo (p :: r) lo hi put = rngGo r (min lo p.1) (max hi p.2) put := by
  simp only [rngGo, h, h2, if_false]
theorem rngGo_length : ∀ (xs : List Sp) (lo hi : Int) (put : Bool), (rngGo xs lo hi put).length ≤ xs.length + (if put then 0 else 1)
  | [], lo, hi, put => by cases put <;> simp [rngGo]
  | p :: r, lo, hi, put => by
    by_cases h : hi + 1 < p.1
    · rw [rngGo_above h]
      have := rngGo_length r lo hi put
      simp only [List.length_cons]
      omega
    · by_cases h2 : p.2 < lo - 1
      · have := rngGo_length r lo hi true
        cases put with
        | true =>
          rw [rngGo_put h h2]
          simp only [List.length_cons, if_true] at this ⊢
          omega
        | false =>
          rw [rngGo_new h h2]
          simp only [List.length_cons, if_true, Bool.false_eq_true, if_false] at this ⊢
          omega
      · rw [rngGo_join h h2]
        have := rngGo_length r (min lo p.1) (max hi p.2) put
        simp only [List.length_cons]
        omega
theorem rngGo_true : ∀ {xs : List Sp} {lo hi : Int}, (∀ p ∈ xs, p.1 ≤ p.2 ∧ p.2 < lo - 1) → lo ≤ hi → rngGo xs lo hi true = xs
  | [], _, _, _, _ => rfl
  | p :: r, lo, hi, h, l => by
    have h1 := h p (.head _)
    have n1 : ¬ hi + 1 < p.1 := by omega
    have n2 : p.2 < lo - 1 := h1.2
    simp only [rngGo, n1, n2, if_true, if_false, rngGo_true (xs := r) (fun q hq => h q (.tail _ hq)) l]
theorem addRange_front {xs : List Sp} {lo hi : Int} (h : ∀ p ∈ xs, p.1 ≤ p.2 ∧ p.2 < lo - 1) (l : lo ≤ hi) : addRange xs lo hi = (lo, hi) :: xs := by
  unfold addRange
  cases xs with
  | nil => rfl
  | cons p r =>
    have h1 := h p (.head _)
    have n1 : ¬ hi + 1 < p.1 := by omega
    have n2 : p.2 < lo - 1 := h1.2
    simp only [rngGo, n1, n2, if_true, if_false, Bool.false_eq_true, rngGo_true (xs := r) (fun q hq => h q (.tail _ hq)) l]
theorem lawRanges_go : ∀ (xs f : List Sp), Canon xs → (∀ p ∈ f, p.1 ≤ p.2) → (∀ p ∈ f, ∀ q ∈ xs, p.2 + 1 < q.1) → xs.foldl (fun f p => addRange f p.1 (p.2 - 1)) f = (xs.map conv).reverse ++ f
  | [], f, _, _, _ => rfl
  | p :: r, f, c, h0, h => by
    have h1 := c.1
    have e : addRange f p.1 (p.2 - 1) = conv p :: f := addRange_front (fun q hq => by
      have := h q hq p (.head _)
      have := h0 q hq
      omega) (by omega)
    rw [List.foldl_cons, e, lawRanges_go r (conv p :: f) c.2.2 (fun q hq => by
      rcases List.mem_cons.mp hq with rfl | hq
      · show p.1 ≤ p.2 - 1
        omega
      · exact h0 q hq) (fun q hq z hz => by
      rcases List.mem_cons.mp hq with rfl | hq
      · have := c.2.1 z hz
        show p.2 - 1 + 1 < z.1
        omega
      · exact h q hq z (.tail _ hz))]
    simp
theorem lawRanges_eq {a : List Sp} (ha : Canon a) : lawRanges a = (a.map conv).reverse := by
  have := lawRanges_go a [] ha (by simp) (by simp)
  simpa [lawRanges] using this
theorem rightGo_none (p : Sp) (r : List Sp) : rightGo none (p :: r) = (decide (0 ≤ p.1) && decide (p.1 ≤ p.2) && rightGo (some p.1) r) := rfl
theorem rightGo_some (c : Int) (p : Sp) (r : List Sp) : rightGo (some c) (p :: r) = (decide (0 ≤ p.1) && decide (p.1 ≤ p.2) && decide (p.2 < c - 1) && rightGo (some p.1) r) := rfl
theorem rightGo_eq : ∀ (xs : List Sp) (f : List Sp) (c : Option Int), Canon xs → In 0 20 xs → (∀ q ∈ xs, ∀ d, c = some d → q.2 - 1 < d - 1) → (∀ d, (match xs with | [] => c | p :: _ => some p.1) = d → rightGo d f = true) → rightGo c ((xs.map conv).reverse ++ f) = true
  | [], f, c, _, _, _, hf => hf c rfl
  | p :: r, f, c, hc, hi, hd, hf => by
    have h1 := hc.1
    have h2 := hi p (.head _)
    have hf' : rightGo (some p.1) f = true := hf (some p.1) rfl
    have ih := rightGo_eq r (conv p :: f) c hc.2.2 (fun q hq => hi q (.tail _ hq)) (fun q hq => hd q (.tail _ hq)) (by
      intro d hd'
      have e1 : (conv p).1 = p.1 := rfl
      have e2 : (conv p).2 = p.2 - 1 := rfl
      cases r with
      | nil =>
        simp only at hd'
        subst hd'
        cases c with
        | none =>
          rw [rightGo_none, e1, e2, hf']
          simp only [Bool.and_true, Bool.and_eq_true, decide_eq_true_eq]
          omega
        | some d =>
          have := hd p (.head _) d rfl
          rw [rightGo_some, e1, e2, hf']
          simp only [Bool.and_true, Bool.and_eq_true, decide_eq_true_eq]
          omega
      | cons q t =>
        simp only at hd'
        subst hd'
        have := hc.2.1 q (.head _)
        rw [rightGo_some, e1, e2, hf']
        simp only [Bool.and_true, Bool.and_eq_true, decide_eq_true_eq]
        omega)
    rw [List.map_cons, List.reverse_cons, List.append_assoc]
    exact ih
theorem areRight_law {a : List Sp} (ha : Canon a) (ia : In 0 20 a) : areRight (lawRanges a) = true := by
  rw [lawRanges_eq ha]
  have := rightGo_eq a [] none ha ia (by simp) (by intro d _; cases d <;> rfl)
  simpa [areRight] using this
theorem countOf_law {a : List Sp} (ha : Canon a) : countOf (lawRanges a) = spanCount a := by
  rw [lawRanges_eq ha]
  unfold countOf spanCount
  rw [List.map_reverse, List.sum_reverse, List.map_map]
  congr 1
  refine List.map_congr_left fun p _ => ?_
  simp only [Function.comp, conv]
  omega
theorem canon_negs : ∀ {xs : List Sp}, Canon xs → Canon ((xs.map conv).reverse.map neg)
  | [], _ => trivial
  | p :: r, c => by
    have h1 := c.1
    rw [List.map_cons, List.reverse_cons, List.map_append]
    refine canon_append (canon_negs c.2.2) ⟨?_, by simp, trivial⟩ fun q hq z hz => ?_
    · show -(p.2 - 1) < -p.1 + 1
      omega
    · obtain ⟨y, hy, rfl⟩ := List.mem_map.mp hq
      obtain ⟨x, hx, rfl⟩ := List.mem_map.mp (List.mem_reverse.mp hy)
      have := c.2.1 x hx
      rw [List.map_singleton, List.mem_singleton] at hz
      subst hz
      show -x.1 + 1 < -(p.2 - 1)
      omega
theorem mem_negs (xs : List Sp) (n : Int) : Mem ((xs.map conv).reverse.map neg) n ↔ Mem xs (-n) := by
  unfold Mem
  constructor
  · rintro ⟨q, hq, h1, h2⟩
    obtain ⟨y, hy, rfl⟩ := List.mem_map.mp hq
    obtain ⟨x, hx, rfl⟩ := List.mem_map.mp (List.mem_reverse.mp hy)
    simp only [neg, conv] at h1 h2
    exact ⟨x, hx, by omega, by omega⟩
  · rintro ⟨x, hx, h1, h2⟩
    refine ⟨neg (conv x), List.mem_map.mpr ⟨conv x, List.mem_reverse.mpr (List.mem_map.mpr ⟨x, hx, rfl⟩), rfl⟩, ?_⟩
    simp only [neg, conv]
    omega
theorem neg_inj : ∀ {xs ys : List Sp}, xs.map neg = ys.map neg → xs = ys
  | [], [], _ => rfl
  | [], _ :: _, h => by simp at h
  | _ :: _, [], h => by simp at h
  | p :: r, q :: t, h => by
    simp only [List.map_cons, List.cons.injEq] at h
    have e : p = q := by
      have h1 := congrArg Prod.fst h.1
      have h2 := congrArg Prod.snd h.1
      simp only [neg] at h1 h2
      exact Prod.ext (by omega) (by omega)
    rw [e, neg_inj h.2]
theorem addRange_law {a : List Sp} {lo hi : Int} (ha : Canon a) (l : lo < hi) : addRange (lawRanges a) lo (hi - 1) = lawRanges (addSpan a lo hi) := by
  rw [lawRanges_eq ha, lawRanges_eq (addSpan_canon ha)]
  refine neg_inj ?_
  rw [addRange_neg _ (by omega)]
  refine canon_ext (addSpan_canon (canon_negs ha)) (canon_negs (addSpan_canon ha)) fun n => ?_
  rw [addSpan_mem (canon_negs ha), mem_negs, mem_negs, addSpan_mem ha]
  constructor
  · rintro (h | h)
    · exact .inl h
    · exact .inr (by omega)
  · rintro (h | h)
    · exact .inl h
    · exact .inr (by omega)
theorem prune_yes {x y low : Int} {r : List Sp} (h : low ≤ y) : prune ((x, y) :: r) low = (max x low, y) :: prune r low := by
  unfold prune
  rw [List.filter_cons, if_pos (by simpa using h)]
  rfl
theorem prune_no {x y low : Int} {r : List Sp} (h : ¬ low ≤ y) : prune ((x, y) :: r) low = prune r low := by
  unfold prune
  rw [List.filter_cons, if_neg (by simpa using h)]
theorem prune_conv {low : Int} (l : 0 < low) : ∀ {a : List Sp}, Canon a → In 0 20 a → prune (a.map conv) low = (cutGo a 0 low).map conv
  | [], _, _ => rfl
  | p :: r, c, i => by
    have h1 := c.1
    have h2 := i p (.head _)
    have ih := prune_conv l c.2.2 fun q hq => i q (.tail _ hq)
    have n1 : ¬ p.1 < min p.2 0 := by omega
    show prune (conv p :: r.map conv) low = (cutOne p 0 low ++ cutGo r 0 low).map conv
    rw [List.map_append, ← ih]
    unfold prune cutOne
    rw [if_neg n1, List.nil_append, List.filter_cons]
    by_cases g : low < p.2
    · have g1 : low ≤ (conv p).2 := by simp only [conv]; omega
      have g2 : max p.1 low < p.2 := by omega
      have g3 : low ≤ p.2 - 1 := by omega
      simp [g3, g2, conv]
    · have g1 : ¬ low ≤ (conv p).2 := by simp only [conv]; omega
      have g2 : ¬ max p.1 low < p.2 := by omega
      simp [g1, g2]
theorem prune_zero : ∀ {a : List Sp}, Canon a → In 0 20 a → prune (a.map conv) 0 = a.map conv
  | [], _, _ => rfl
  | p :: r, c, i => by
    have h1 := c.1
    have h2 := i p (.head _)
    have ih := prune_zero c.2.2 fun q hq => i q (.tail _ hq)
    have g1 : 0 ≤ (conv p).2 := by simp only [conv]; omega
    have g2 : max (conv p).1 0 = (conv p).1 := by simp only [conv]; omega
    unfold prune at ih ⊢
    rw [List.map_cons, List.filter_cons, if_pos (by simpa using g1), List.map_cons, ih, g2]
theorem prune_law {a : List Sp} {low : Int} (ha : Canon a) (ia : In 0 20 a) (l : 0 ≤ low) : prune (lawRanges a) low = lawRanges (cutSpan a 0 low) := by
  rw [lawRanges_eq ha, lawRanges_eq (cutSpan_canon ha)]
  have e : prune (a.map conv).reverse low = (prune (a.map conv) low).reverse := by
    unfold prune
    rw [List.filter_reverse, List.map_reverse]
  rw [e]
  congr 1
  unfold cutSpan
  split
  · exact prune_conv (by assumption) ha ia
  · have : low = 0 := by omega
    subst this
    exact prune_zero ha ia
end Mine
end

section
namespace Mine
abbrev spanD (p : Sp) : Dat := .tuple [.int p.1, .int p.2]
abbrev Ledger := List (Addr × Obj)
abbrev tupO (a b : Int) (t u : Tok) (n : Nat) : Obj := { cls := .type "tuple", data := .seq #[.int a t, .int b u] n }
/-- the values vs are the spans xs -/
def SpAll (news : Ledger) (vs : List Value) (xs : List Sp) : Prop := DatAll news vs (xs.map spanD)
/-- the list of the spans xs lies at a -/
def SpAt (news : Ledger) (a : Addr) (xs : List Sp) : Prop := ∃ (vs : List Value) (n : Nat), (a, W.listOf vs.toArray n) ∈ news ∧ SpAll news vs xs

section
variable {news news' : Ledger} {vs ws : List Value} {xs ys : List Sp}
theorem SpAll.nil : SpAll news [] [] := DatAll.nil
theorem SpAll.mono (hs : ∀ p ∈ news, p ∈ news') (h : SpAll news vs xs) : SpAll news' vs xs := DatAll.mono hs h
theorem SpAt.mono {a : Addr} (hs : ∀ p ∈ news, p ∈ news') (h : SpAt news a xs) : SpAt news' a xs :=
  let ⟨vs, n, h1, h2⟩ := h
  ⟨vs, n, hs _ h1, h2.mono hs⟩
theorem SpAll.append (h : SpAll news vs xs) (k : SpAll news ws ys) : SpAll news (vs ++ ws) (xs ++ ys) := by
  unfold SpAll
  rw [List.map_append]
  exact DatAll.append h k
theorem SpAll.one {t : Addr} {a b : Int} {u v : Tok} {n : Nat} (h : (t, tupO a b u v n) ∈ news) : SpAll news [.ref t] [(a, b)] :=
  .cons (.tuple (vs := [.int a u, .int b v]) h (.cons (.int a u) (.cons (.int b v) .nil))) .nil
theorem SpAll.snoc {t : Addr} {a b : Int} {u v : Tok} {n : Nat} (k : SpAll news vs xs) (h : (t, tupO a b u v n) ∈ news) : SpAll news (vs ++ [.ref t]) (xs ++ [(a, b)]) := k.append (SpAll.one h)
theorem SpAll.cons {t : Addr} {a b : Int} {u v : Tok} {n : Nat} (h : (t, tupO a b u v n) ∈ news) (k : SpAll news vs xs) : SpAll news (.ref t :: vs) ((a, b) :: xs) := (SpAll.one h).append k
theorem SpAll.length (h : SpAll news vs xs) : vs.length = xs.length := by
  have := DatAll.length h
  simpa using this
theorem SpAll.uncons {v : Value} (h : SpAll news (v :: vs) xs) : ∃ t a b u w n r, v = .ref t ∧ xs = (a, b) :: r ∧ (t, tupO a b u w n) ∈ news ∧ SpAll news vs r := by
  cases xs with
  | nil => cases h
  | cons p r =>
    cases h with
    | cons h1 h2 =>
      cases h1 with
      | tuple hm hd =>
        cases hd with
        | cons g1 g2 =>
          cases g1 with
          | int _ t1 =>
            cases g2 with
            | cons g3 g4 =>
              cases g3 with
              | int _ t2 =>
                cases g4
                exact ⟨_, p.1, p.2, t1, t2, _, r, rfl, rfl, hm, h2⟩
theorem SpAll.unnil (h : SpAll news [] xs) : xs = [] := by
  cases xs with
  | nil => rfl
  | cons p r => cases h
end

/-- news' holds of news what is a list or a tuple -/
def SubT (news news' : Ledger) : Prop := ∀ p ∈ news, p ∈ news' ∨ (p.2.cls ≠ .type "tuple" ∧ p.2.cls ≠ .type "list")
mutual
theorem datIn_sub {news news' : Ledger} (hs : SubT news news') : ∀ {v : Value} {d : Dat}, DatIn news v d → DatIn news' v d
  | _, _, .none => .none
  | _, _, .bool b => .bool b
  | _, _, .int i t => .int i t
  | _, _, .str x t => .str x t
  | _, _, .bytes b t => .bytes b t
  | _, _, .tuple h r => .tuple ((hs _ h).elim id fun x => absurd rfl x.1) (datAll_sub hs r)
  | _, _, .list h r => .list ((hs _ h).elim id fun x => absurd rfl x.2) (datAll_sub hs r)
theorem datAll_sub {news news' : Ledger} (hs : SubT news news') : ∀ {vs : List Value} {ds : List Dat}, DatAll news vs ds → DatAll news' vs ds
  | _, _, .nil => .nil
  | _, _, .cons h r => .cons (datIn_sub hs h) (datAll_sub hs r)
end
theorem SpAll.sub {news news' : Ledger} {vs : List Value} {xs : List Sp} (hs : SubT news news') (h : SpAll news vs xs) : SpAll news' vs xs := datAll_sub hs h
theorem SpAt.sub {news news' : Ledger} {a : Addr} {xs : List Sp} (hs : SubT news news') (h : SpAt news a xs) : SpAt news' a xs :=
  let ⟨vs, n, h1, h2⟩ := h
  ⟨vs, n, (hs _ h1).elim id fun x => absurd rfl x.2, h2.sub hs⟩
theorem SpAll.subU {led led' : Ledger} (hs : ∀ p ∈ led, p.2.cls = .type "tuple" → p ∈ led') : ∀ {vs : List Value} {xs : List Sp}, SpAll led vs xs → SpAll led' vs xs
  | [], xs, h => by
    cases xs with
    | nil => exact .nil
    | cons p r => cases h
  | v :: vs, xs, h => by
    obtain ⟨t, a, b, u, w, n, r, rfl, rfl, hm, h'⟩ := h.uncons
    exact SpAll.cons (hs _ hm rfl) (h'.subU hs)
/-- what stands beside the pool stands when the pool is turned -/
theorem SpAt.upd {led led' : Ledger} {h₀ h : Heap} {L a P : Addr} {xs : List Sp} {v : Value} {n : Nat} {i : Int} {tk : Tok} (N : News h₀ L h led) (hP : (P, W.listOf [v, Value.int i tk].toArray n) ∈ led)
    (hs : ∀ p ∈ led, p ∈ led' ∨ p.1 = P ∨ (p.2.cls ≠ .type "tuple" ∧ p.2.cls ≠ .type "list")) (x : SpAt led a xs) : SpAt led' a xs := by
  obtain ⟨vs, k, h1, h2⟩ := x
  have one : ∀ p ∈ led, p.1 = P → p.2 = W.listOf [v, Value.int i tk].toArray n := fun p hp e => by
    have q1 := (N p hp).1
    have q2 := (N _ hP).1
    rw [e] at q1
    exact Option.some.inj (q1.symm.trans q2)
  refine ⟨vs, k, ?_, h2.subU fun p hp hc => ?_⟩
  · rcases hs _ h1 with q | q | q
    · exact q
    · have e := one _ h1 q
      have e2 : vs.toArray = [v, Value.int i tk].toArray := by
        have := congrArg Obj.data e
        injection this
      have e3 : vs = [v, Value.int i tk] := congrArg Array.toList e2
      subst e3
      obtain ⟨_, _, _, _, _, _, _, _, _, _, h3⟩ := h2.uncons
      obtain ⟨_, _, _, _, _, _, _, hq, _⟩ := h3.uncons
      cases hq
    · exact absurd rfl q.2
  · rcases hs _ hp with q | q | q
    · exact q
    · rw [one _ hp q] at hc
      exact absurd (Value.type.inj hc) (by decide)
    · exact absurd hc q.1
theorem type_ne {a b : String} {v : Value} (h : v = .type a) (hab : a ≠ b) : v ≠ .type b := by
  rintro rfl
  exact hab (Value.type.inj h).symm
theorem SpAt.drop {tl rest : Ledger} {I : Addr} {o : Obj} {a : Addr} {xs : List Sp} {c : String} (ho : o.cls = .type c) (h1 : c ≠ "tuple") (h2 : c ≠ "list") (h : SpAt (tl ++ (I, o) :: rest) a xs) : SpAt (tl ++ rest) a xs :=
  h.sub fun p hp => by
    rcases List.mem_append.mp hp with hp | hp
    · exact .inl (List.mem_append.mpr (.inl hp))
    · rcases List.mem_cons.mp hp with rfl | hp
      · exact .inr ⟨type_ne ho h1, type_ne ho h2⟩
      · exact .inl (List.mem_append.mpr (.inr hp))
theorem SpAt.right {tl news : Ledger} {a : Addr} {xs : List Sp} (h : SpAt news a xs) : SpAt (tl ++ news) a xs := h.mono fun _ hp => List.mem_append.mpr (.inr hp)
theorem SpAt.tail {p : Addr × Obj} {news : Ledger} {a : Addr} {xs : List Sp} (h : SpAt news a xs) : SpAt (p :: news) a xs := h.mono fun _ hp => .tail _ hp

theorem led_call {I : Addr} {o : Obj} {tl9 tl news : Ledger} (hI : ∀ p ∈ tl ++ news, p.1 ≠ I) (hl : ∀ p ∈ tl9, ∀ q ∈ (I, o) :: (tl ++ news), q.1 < p.1) :
    ∀ p ∈ tl9 ++ tl ++ news, p ∈ tl9 ++ (I, o) :: (tl ++ news) ∧ p.1 ≠ I := by
  intro p hp
  rw [List.append_assoc] at hp
  rcases List.mem_append.mp hp with hp | hp
  · exact ⟨List.mem_append.mpr (.inl hp), Nat.ne_of_gt (hl p hp _ (.head _))⟩
  · exact ⟨List.mem_append.mpr (.inr (.tail _ hp)), hI p hp⟩
theorem fresh_call {I : Addr} {o : Obj} {tl9 tl news : Ledger} (hf : ∀ p ∈ tl, ∀ q ∈ news, q.1 < p.1) (hl : ∀ p ∈ tl9, ∀ q ∈ (I, o) :: (tl ++ news), q.1 < p.1) :
    ∀ p ∈ tl9 ++ tl, ∀ q ∈ news, q.1 < p.1 := by
  intro p hp q hq
  rcases List.mem_append.mp hp with hp | hp
  · exact hl p hp q (.tail _ (List.mem_append.mpr (.inr hq)))
  · exact hf p hp q hq
theorem at_call {I : Addr} {o : Obj} {tl9 tl news : Ledger} {a : Addr} {xs : List Sp} (ho : o.cls = .type "list_iterator") (h : SpAt (tl9 ++ (I, o) :: (tl ++ news)) a xs) : SpAt (tl9 ++ tl ++ news) a xs := by
  rw [List.append_assoc]
  exact h.drop ho (by decide) (by decide)

theorem fresh_two {t1 t2 news : Ledger} (h1 : ∀ p ∈ t1, ∀ q ∈ news, q.1 < p.1) (h2 : ∀ p ∈ t2, ∀ q ∈ t1 ++ news, q.1 < p.1) : ∀ p ∈ t2 ++ t1, ∀ q ∈ news, q.1 < p.1 := by
  intro p hp q hq
  rcases List.mem_append.mp hp with hp | hp
  · exact h2 p hp q (List.mem_append.mpr (.inr hq))
  · exact h1 p hp q hq
theorem fresh_three {t1 t2 t3 news : Ledger} (h1 : ∀ p ∈ t1, ∀ q ∈ news, q.1 < p.1) (h2 : ∀ p ∈ t2, ∀ q ∈ t1 ++ news, q.1 < p.1) (h3 : ∀ p ∈ t3, ∀ q ∈ t2 ++ (t1 ++ news), q.1 < p.1) : ∀ p ∈ t3 ++ t2 ++ t1, ∀ q ∈ news, q.1 < p.1 := by
  rw [List.append_assoc]
  intro p hp q hq
  rcases List.mem_append.mp hp with hp | hp
  · exact h3 p hp q (List.mem_append.mpr (.inr (List.mem_append.mpr (.inr hq))))
  · exact fresh_two h1 h2 p hp q hq

theorem mem_swap {p a b : Addr × Obj} {r : Ledger} (h : p ∈ a :: b :: r) : p ∈ b :: a :: r := by
  rcases List.mem_cons.mp h with rfl | h
  · exact .tail _ (.head _)
  rcases List.mem_cons.mp h with rfl | h
  · exact .head _
  · exact .tail _ (.tail _ h)

def FrIs (m₀ m : Str → Option Value) (ps : List (Str × Value)) (free : List Str) : Prop :=
  (∀ p ∈ ps, m p.1 = some p.2) ∧ ∀ z, (∀ p ∈ ps, z ≠ p.1) → free.contains z = false → m z = m₀ z
theorem FrIs.fr {m₀ m : Str → Option Value} {ps : List (Str × Value)} {free : List Str} {h₀ hp : Heap} {L : Addr} (h : FrIs m₀ m ps free) (F : Fr h₀ L hp m) :
    Fr h₀ L hp (kstB (fun z => if free.contains z then m z else m₀ z) ps) := by
  have e : kstB (fun z => if free.contains z then m z else m₀ z) ps = m := by
    funext z
    refine kstB_eq h.1 fun hn => ?_
    cases h3 : free.contains z with
    | true => simp
    | false => simp only [Bool.false_eq_true, if_false]; exact (h.2 z hn h3).symm
  rw [e]
  exact F

def TurnEnd {σ : Type} (h₀ : Heap) (L : Addr) (s₁ : Shared) (I : Addr) (o : Obj) (m₀ : Str → Option Value) (free : List Str) (Led : σ → Ledger) (ps : σ → List (Str × Value)) (Inv : σ → Prop) (s₂ : Shared) : Prop :=
  ∃ c h' tk' m' news', s₂ = { s₁ with heap := h', toks := tk' } ∧ Fr h₀ L h' m' ∧ News h₀ L h' news' ∧ (I, o) ∈ news' ∧ (∀ p ∈ Led c, p ∈ news' ∧ p.1 ≠ I) ∧ FrIs m₀ m' (ps c) free ∧ Inv c
def TurnPost {σ : Type} (h₀ : Heap) (L : Addr) (s₁ : Shared) (I : Addr) (o : Obj) (m₀ : Str → Option Value) (free : List Str) (Led : σ → Ledger) (ps : σ → List (Str × Value)) (Inv : σ → Prop) (Q : Flow → Shared → Prop) (f : Flow) (s₂ : Shared) : Prop :=
  match f with
  | .ret v => Q (.ret v) s₂
  | .brk => Q .next s₂
  | _ => TurnEnd h₀ L s₁ I o m₀ free Led ps Inv s₂

section
variable {prog : Program} {w : World} {A : Around} {E : Value → Shared → Prop} {s : Shared} {env : Env} {h₀ : Heap} {target : PySem.Expr} {body : List Stmt} {Q : Flow → Shared → Prop}
theorem items_loop {σ : Type} {I : Addr} {ax : Addr} {lo : Obj} {cls : String} {m₀ : Str → Option Value} (free : List Str) (Led : σ → Ledger) (ps : σ → List (Str × Value)) (Inv : List Value → σ → Prop)
    (hm : ∀ r c, Inv r c → (ax, lo) ∈ Led c)
    (turn : ∀ o v r c (u : Str → Option Value) h tk, o.cls = .type cls → (∀ p ∈ Led c, p.1 ≠ I) → Inv (v :: r) c →
      Fr h₀ env.locals h (kstB (fun z => if free.contains z then u z else m₀ z) (ps c)) → News h₀ env.locals h ((I, o) :: Led c) →
      wpAny (model prog w) A (assign target env v) (fun _ s₂ => wpAny (model prog w) A (execs body env) (TurnPost h₀ env.locals { s with heap := h, toks := tk } I o m₀ free Led ps (Inv r) Q) E s₂) E { s with heap := h, toks := tk })
    (done : ∀ c (u : Str → Option Value) h tk, Inv [] c → Fr h₀ env.locals h (kstB (fun z => if free.contains z then u z else m₀ z) (ps c)) → News h₀ env.locals h (Led c) → Q .next { s with heap := h, toks := tk }) :
    ∀ vs m c, Inv vs c → FrIs m₀ m (ps c) free → (∀ p ∈ Led c, p.1 ≠ I) → ItemsRest prog w A E h₀ env target body Q s [(I, cls)] [(ax, lo)] (vs.map .val) m (Led c)
  | [], m, c, hi, hf, hI => fun h tk F N => done c m h tk hi (hf.fr F) N
  | v :: vs, m, c, hi, hf, hI => by
    refine ItemsRest.val (fun h tk F => AllObj.cons (fun o ho => AllObj.nil (fun N => ?_)))
    refine wpAny_mono (turn o v vs c m h tk ho hI hi (hf.fr F) N) (fun _ s₂ h₂ => wpAny_mono h₂ (fun f s₃ h₃ => ?_) fun _ _ e => e) fun _ _ e => e
    have fin : ∀ {s₃}, TurnEnd h₀ env.locals { s with heap := h, toks := tk } I o m₀ free Led ps (Inv vs) s₃ →
        UnrEndW h₀ env.locals { s with heap := h, toks := tk } [(I, o)] (fun m' n' => SubL [(ax, lo)] n' ∧ ItemsRest prog w A E h₀ env target body Q s [(I, cls)] [(ax, lo)] (vs.map .val) m' n') s₃ := by
      rintro s₃ ⟨c', h', tk', m', news', rfl, F', N', hI', hl, hf', hi'⟩
      refine ⟨h', tk', m', Led c', rfl, F', fun p hp => ?_, fun p hp q hq => ?_, ⟨hm _ _ hi', trivial⟩, items_loop free Led ps Inv hm turn done vs m' c' hi' hf' fun p hp => (hl p hp).2⟩
      · rcases List.mem_cons.mp hp with rfl | hp
        · exact N' _ hI'
        · exact N' _ (hl p hp).1
      · rw [List.mem_singleton.mp hq]
        exact (hl p hp).2
    cases f with
    | ret v => exact h₃
    | brk => exact h₃
    | next => exact fin h₃
    | cont => exact fin h₃

def EnumPost (h₀ : Heap) (L : Addr) (s₁ : Shared) (its : Ledger) (news : Ledger) (m₀ : Str → Option Value) (free : List Str) (ps : List (Str × Value)) (Inv : Prop) (Q : Flow → Shared → Prop) (f : Flow) (s₂ : Shared) : Prop :=
  match f with
  | .ret v => Q (.ret v) s₂
  | .brk => Q .next s₂
  | _ => ∃ h' tk' m', s₂ = { s₁ with heap := h', toks := tk' } ∧ Fr h₀ L h' m' ∧ News h₀ L h' (its ++ news) ∧ FrIs m₀ m' ps free ∧ Inv
theorem enum_items {I ax : Addr} {lo : Obj} {m₀ : Str → Option Value} {news : Ledger} (free : List Str) (ps : List (Str × Value)) (Inv : Nat → List Value → Prop) (hm : (ax, lo) ∈ news) (hI : ∀ p ∈ news, p.1 < I)
    (turn : ∀ o₁ o₂ i v r (u : Str → Option Value) h tk T t, Inv i (v :: r) → IsTup h T #[.int (i : Int) t, v] → Fr h₀ env.locals h (kstB (fun z => if free.contains z then u z else m₀ z) ps) → News h₀ env.locals h ((I + 1, o₁) :: (I, o₂) :: news) →
      wpAny (model prog w) A (assign target env (.ref T)) (fun _ s₂ => wpAny (model prog w) A (execs body env) (EnumPost h₀ env.locals { s with heap := h, toks := tk } [(I + 1, o₁), (I, o₂)] news m₀ free ps (Inv (i + 1) r) Q) E s₂) E { s with heap := h, toks := tk })
    (done : ∀ i (u : Str → Option Value) h tk, Inv i [] → Fr h₀ env.locals h (kstB (fun z => if free.contains z then u z else m₀ z) ps) → News h₀ env.locals h news → Q .next { s with heap := h, toks := tk }) :
    ∀ vs i m, Inv i vs → FrIs m₀ m ps free → ItemsRest prog w A E h₀ env target body Q s [(I + 1, "enumerate"), (I, "list_iterator")] [(ax, lo)] (enumItems i vs) m news
  | [], i, m, hi, hf => fun h tk F N => done i m h tk hi (hf.fr F) N
  | v :: vs, i, m, hi, hf => by
    refine ItemsRest.pair (fun T t h tk hT F => AllObj.cons (fun o₁ ho₁ => AllObj.cons (fun o₂ ho₂ => AllObj.nil (fun N => ?_))))
    refine wpAny_mono (turn o₁ o₂ i v vs m h tk T t hi hT (hf.fr F) N) (fun _ s₂ h₂ => wpAny_mono h₂ (fun f s₃ h₃ => ?_) fun _ _ e => e) fun _ _ e => e
    have fin : (∃ h' tk' m', s₃ = { ({ s with heap := h, toks := tk } : Shared) with heap := h', toks := tk' } ∧ Fr h₀ env.locals h' m' ∧ News h₀ env.locals h' ([(I + 1, o₁), (I, o₂)] ++ news) ∧ FrIs m₀ m' ps free ∧ Inv (i + 1) vs) →
        UnrEndW h₀ env.locals { s with heap := h, toks := tk } [(I + 1, o₁), (I, o₂)] (fun m' n' => SubL [(ax, lo)] n' ∧ ItemsRest prog w A E h₀ env target body Q s [(I + 1, "enumerate"), (I, "list_iterator")] [(ax, lo)] (enumItems (i + 1) vs) m' n') s₃ := by
      rintro ⟨h', tk', m', rfl, F', N', hf', hi'⟩
      refine ⟨h', tk', m', news, rfl, F', N', fun p hp q hq => ?_, ⟨hm, trivial⟩, enum_items free ps Inv hm hI turn done vs (i + 1) m' hi' hf'⟩
      have hp' := hI p hp
      rcases List.mem_cons.mp hq with rfl | hq
      · exact Nat.ne_of_lt (Nat.lt_succ_of_lt hp')
      · rw [List.mem_singleton.mp hq]
        exact Nat.ne_of_lt hp'
    cases f with
    | ret v => exact h₃
    | brk => exact h₃
    | next => exact fin h₃
    | cont => exact fin h₃
theorem enum_next {h₀ : Heap} {L : Addr} {s₁ : Shared} {its news : Ledger} {m₀ m' : Str → Option Value} {free : List Str} {ps : List (Str × Value)} {Inv : Prop} {Q : Flow → Shared → Prop} {h' : Heap} {tk' : Nat} (F : Fr h₀ L h' m') (N : News h₀ L h' (its ++ news))
    (h1 : ∀ p ∈ ps, m' p.1 = some p.2) (h2 : ∀ z, (∀ p ∈ ps, z ≠ p.1) → free.contains z = false → m' z = m₀ z) (hi : Inv) :
    EnumPost h₀ L s₁ its news m₀ free ps Inv Q .next { s₁ with heap := h', toks := tk' } := ⟨h', tk', m', rfl, F, N, ⟨h1, h2⟩, hi⟩

/-- holds the walk here -/
def Hold (P : Prop) : Prop := P
structure HoldMark : Prop where
theorem hold_intro {P : Prop} (h : Hold P) : P := h
theorem for_hold {x : Str} {m : Str → Option Value} {px pos : Pos} {iter : PySem.Expr} (F : Fr h₀ env.locals s.heap m) (hx : env.kindOf x = some .local)
    (hp : (env.scope.kind == .class || (env.scope.kind == .module && env.locals != env.globals)) = false)
    (h : wpAny (model prog w) A (eval iter env) (fun xv s₁ => Hold (wpAny (model prog w) A (pyIter xv) (fun it s₂ => LoopAtV prog w A h₀ env x body Q E it s₂) E s₁)) E s)
    (hs : ∀ x, foldedSetIterable iter env x = pure x := by intro _; rfl) (hE : PassesOwn (model prog w) A env E := by passes_own) :
    wpAny (model prog w) A (exec (.For (.Name x px) iter body [] pos) env) Q E s := For_invVF F hx hp h hs hE
theorem range_items {σ : Type} {I : Addr} {x : Str} {a : Int} {n : Nat} {m₀ : Str → Option Value} (free : List Str) (Led : σ → Ledger) (ps : σ → List (Str × Value)) (Inv : Nat → σ → Prop)
    (turn : ∀ (o : Obj) (k : Nat) (v : Int) t c (u : Str → Option Value) h tk, o.cls = .type "range_iterator" → (∀ p ∈ Led c, p.1 ≠ I) → Inv (k + 1) c →
      Fr h₀ env.locals h (fun y => if y = x then some (.int v t) else kstB (fun z => if free.contains z then u z else m₀ z) (ps c) y) → News h₀ env.locals h ((I, o) :: Led c) →
      wpAny (model prog w) A (execs body env) (TurnPost h₀ env.locals { s with heap := h, toks := tk } I o m₀ free Led ps (Inv k) Q) E { s with heap := h, toks := tk })
    (done : ∀ c (u : Str → Option Value) h tk, Inv 0 c → Fr h₀ env.locals h (kstB (fun z => if free.contains z then u z else m₀ z) (ps c)) → News h₀ env.locals h (Led c) → Q .next { s with heap := h, toks := tk }) :
    ∀ k i m c, Inv k c → FrIs m₀ m (ps c) free → (∀ p ∈ Led c, p.1 ≠ I) → RangeRest prog w A E h₀ env x body Q s I a n k i m (Led c)
  | 0, i, m, c, hi, hf, hI => fun h tk F N => done c m h tk hi (hf.fr F) N
  | k + 1, i, m, c, hi, hf, hI => by
    refine RangeRest.succ fun t h tk F N => ?_
    have F1 : Fr h₀ env.locals h (fun y => if y = x then some (.int (a + (i : Int)) t) else kstB (fun z => if free.contains z then m z else m₀ z) (ps c) y) := by
      have e : kstB (fun z => if free.contains z then m z else m₀ z) (ps c) = m := by
        funext z
        refine kstB_eq hf.1 fun hn => ?_
        cases h3 : free.contains z with
        | true => simp
        | false => simp only [Bool.false_eq_true, if_false]; exact (hf.2 z hn h3).symm
      rw [e]
      exact F
    refine wpAny_mono (turn _ k _ t c m h tk rfl hI hi F1 N) (fun f s₃ h₃ => ?_) fun _ _ e => e
    have fin : ∀ {s₃}, TurnEnd h₀ env.locals { s with heap := h, toks := tk } I (itR (a + ((i + 1 : Nat) : Int)) ((n : Int) - ((i + 1 : Nat) : Int))) m₀ free Led ps (Inv k) s₃ →
        UnrEnd h₀ env.locals { s with heap := h, toks := tk } I (itR (a + ((i + 1 : Nat) : Int)) ((n : Int) - ((i + 1 : Nat) : Int))) (RangeRest prog w A E h₀ env x body Q s I a n k (i + 1)) s₃ := by
      rintro s₃ ⟨c', h', tk', m', news', rfl, F', N', hI', hl, hf', hi'⟩
      refine ⟨h', tk', m', Led c', rfl, F', fun p hp => ?_, fun p hp => (hl p hp).2, range_items free Led ps Inv turn done k (i + 1) m' c' hi' hf' fun p hp => (hl p hp).2⟩
      rcases List.mem_cons.mp hp with rfl | hp
      · exact N' _ hI'
      · exact N' _ (hl p hp).1
    cases f with
    | ret v => exact h₃
    | brk => exact h₃
    | next => exact fin h₃
    | cont => exact fin h₃

/-- a loop over a list of the ledger -/
theorem list_loop {σ : Type} {ax : Addr} {lo : Obj} {vs : List Value} {n : Nat} {m₀ : Str → Option Value} {news : Ledger} (free : List Str) (Led : σ → Ledger) (ps : σ → List (Str × Value)) (Inv : List Value → σ → Prop) (c₀ : σ)
    (hh : A.handled = none) (F : Fr h₀ env.locals s.heap m₀) (N : News h₀ env.locals s.heap news) (hsub : ∀ p ∈ Led c₀, p ∈ news) (hc : lo.cls = .type "list") (hd : lo.data = .seq vs.toArray n)
    (hm : ∀ r c, Inv r c → (ax, lo) ∈ Led c) (hk : ∀ p ∈ ps c₀, m₀ p.1 = some p.2) (h0 : Inv vs c₀)
    (turn : ∀ I o v r c (u : Str → Option Value) h tk, o.cls = .type "list_iterator" → (∀ p ∈ Led c, p.1 ≠ I) → Inv (v :: r) c →
      Fr h₀ env.locals h (kstB (fun z => if free.contains z then u z else m₀ z) (ps c)) → News h₀ env.locals h ((I, o) :: Led c) →
      wpAny (model prog w) A (assign target env v) (fun _ s₂ => wpAny (model prog w) A (execs body env) (TurnPost h₀ env.locals { s with heap := h, toks := tk } I o m₀ free Led ps (Inv r) Q) E s₂) E { s with heap := h, toks := tk })
    (done : ∀ c (u : Str → Option Value) h tk, Inv [] c → Fr h₀ env.locals h (kstB (fun z => if free.contains z then u z else m₀ z) (ps c)) → News h₀ env.locals h (Led c) → Q .next { s with heap := h, toks := tk }) :
    wpAny (model prog w) A (pyIter (.ref ax)) (fun it s₂ => TurnsAt prog w A h₀ env target body Q E it s₂) E s :=
  iter_listTurns hh F (fun p hp => N p (hsub p hp)) (hm _ _ h0) hc hd fun I hI =>
    items_loop free Led ps Inv hm (turn I) done vs m₀ c₀ h0 ⟨hk, fun _ _ _ => rfl⟩ fun p hp => Nat.ne_of_lt (hI p hp)
end

section
variable {m₀ m u : Str → Option Value} {ps ps' : List (Str × Value)} {free : List Str}
theorem same_put {x : Str} {v : Value} (hx : (free.contains x || ps.any fun p => p.1 == x) = true) (h : ∀ z, (∀ p ∈ ps, z ≠ p.1) → free.contains z = false → m z = m₀ z) :
    ∀ z, (∀ p ∈ ps, z ≠ p.1) → free.contains z = false → (fun y => if y = x then some v else m y) z = m₀ z := by
  intro z h1 h2
  have hz : z ≠ x := by
    rintro rfl
    rcases Bool.or_eq_true_iff.mp hx with h | h
    · rw [h2] at h; cases h
    · obtain ⟨p, hp, e⟩ := List.any_eq_true.mp h
      exact h1 p hp (beq_iff_eq.mp e).symm
  show (if z = x then some v else m z) = m₀ z
  rw [if_neg hz]
  exact h z h1 h2
theorem same_base (he : ps'.map (·.1) = ps.map (·.1)) : ∀ z, (∀ p ∈ ps, z ≠ p.1) → free.contains z = false → kstB (fun z => if free.contains z then u z else m₀ z) ps' z = m₀ z := by
  intro z h1 h2
  have h3 : ∀ p ∈ ps', z ≠ p.1 := by
    intro p hp e
    have : p.1 ∈ ps.map (·.1) := he ▸ List.mem_map.mpr ⟨p, hp, rfl⟩
    obtain ⟨q, hq, e2⟩ := List.mem_map.mp this
    exact h1 q hq (e.trans e2.symm)
  clear he h1
  induction ps' with
  | nil => show (if free.contains z = true then u z else m₀ z) = m₀ z; rw [h2]; rfl
  | cons p r ih =>
    show (if z = p.1 then some p.2 else kstB _ r z) = m₀ z
    rw [if_neg (h3 p (.head _))]
    exact ih fun q hq => h3 q (.tail _ hq)
end
theorem turn_next {σ : Type} {h₀ : Heap} {L : Addr} {s₁ : Shared} {I : Addr} {o : Obj} {m₀ : Str → Option Value} {free : List Str} {Led : σ → Ledger} {ps : σ → List (Str × Value)} {Inv : σ → Prop} {Q : Flow → Shared → Prop} {h' : Heap} {tk' : Nat} {m' : Str → Option Value} {news' : Ledger} (c : σ)
    (F : Fr h₀ L h' m') (N : News h₀ L h' news') (hI : (I, o) ∈ news') (hl : ∀ p ∈ Led c, p ∈ news' ∧ p.1 ≠ I) (h1 : ∀ p ∈ ps c, m' p.1 = some p.2) (h2 : ∀ z, (∀ p ∈ ps c, z ≠ p.1) → free.contains z = false → m' z = m₀ z) (hi : Inv c) :
    TurnPost h₀ L s₁ I o m₀ free Led ps Inv Q .next { s₁ with heap := h', toks := tk' } := ⟨c, h', tk', m', news', rfl, F, N, hI, hl, ⟨h1, h2⟩, hi⟩

section
variable {prog : Program} {w : World} {A : Around} {E : Value → Shared → Prop} {s : Shared} {h₀ : Heap} {L : Addr} {m : Str → Option Value} {news : Ledger} {Q : Value → Shared → Prop}
theorem list_copy_at {l : Addr} {vs : List Value} {n : Nat} (F : Fr h₀ L s.heap m) (N : News h₀ L s.heap news) (hm : (l, W.listOf vs.toArray n) ∈ news) (hsz : vs.length ≤ 100000)
    (h : ∀ D c h', Fr h₀ L h' m → News h₀ L h' ((D, W.listOf vs.toArray c) :: news) → (∀ q ∈ news, q.1 < D) → Q (.ref D) { s with heap := h' }) :
    wpAny (model prog w) A (call (.type "list") [.ref l]) Q E s :=
  list_copyK F N ⟨_, (N _ hm).1, rfl, n, rfl⟩ h (by rw [sizeLine_eq]; show vs.length ≤ 16777216; omega)
theorem spanD_inj : ∀ {xs ys : List Sp}, xs.map spanD = ys.map spanD → xs = ys
  | [], [], _ => rfl
  | [], _ :: _, h => by simp at h
  | _ :: _, [], h => by simp at h
  | p :: r, q :: t, h => by
    simp only [List.map_cons, List.cons.injEq, Dat.tuple.injEq, Dat.int.injEq, and_true] at h
    rw [Prod.ext h.1.1 h.1.2, spanD_inj h.2]
theorem spanD_ok (xs : List Sp) : ∀ d ∈ xs.map spanD, kqdOk 8 d = true := by
  intro d hd
  obtain ⟨x, _, hx⟩ := List.mem_map.mp hd
  subst hx
  rfl
open Classical in
theorem spans_eq {a b : Addr} {xs ys : List Sp} (N : News h₀ L s.heap news) (ha : SpAt news a xs) (hb : SpAt news b ys) (hu : A.units + 64 < cLine) (h : Q (.bool (decide (xs = ys))) s) : wpAny (model prog w) A (compareOp .Eq (.ref a) (.ref b)) Q E s := by
  obtain ⟨vs, n1, m1, d1⟩ := ha
  obtain ⟨ws, n2, m2, d2⟩ := hb
  refine kqd_eq N m1 rfl rfl d1 (fun _ h => h) m2 rfl rfl d2 (fun _ h => h) (spanD_ok _) (spanD_ok _) hu ?_
  have e : (decide (xs.map spanD = ys.map spanD)) = decide (xs = ys) := decide_eq_decide.mpr ⟨spanD_inj, congrArg _⟩
  rw [e]
  exact h
open Classical in
theorem spans_ne {a b : Addr} {xs ys : List Sp} (N : News h₀ L s.heap news) (ha : SpAt news a xs) (hb : SpAt news b ys) (hu : A.units + 64 < cLine) (h : Q (.bool (!decide (xs = ys))) s) : wpAny (model prog w) A (compareOp .NotEq (.ref a) (.ref b)) Q E s := by
  obtain ⟨vs, n1, m1, d1⟩ := ha
  obtain ⟨ws, n2, m2, d2⟩ := hb
  refine kqd_ne N m1 rfl rfl d1 (fun _ h => h) m2 rfl rfl d2 (fun _ h => h) (spanD_ok _) (spanD_ok _) hu ?_
  have e : (decide (xs.map spanD = ys.map spanD)) = decide (xs = ys) := decide_eq_decide.mpr ⟨spanD_inj, congrArg _⟩
  rw [e]
  exact h
theorem spans_eqT {a b : Addr} {xs ys : List Sp} (N : News h₀ L s.heap news) (ha : SpAt news a xs) (hb : SpAt news b ys) (hu : A.units + 64 < cLine) (e : xs = ys) (h : Q (.bool true) s) : wpAny (model prog w) A (compareOp .Eq (.ref a) (.ref b)) Q E s :=
  spans_eq N ha hb hu (by simpa [e] using h)
theorem spans_neF {a b : Addr} {xs ys : List Sp} (N : News h₀ L s.heap news) (ha : SpAt news a xs) (hb : SpAt news b ys) (hu : A.units + 64 < cLine) (e : xs = ys) (h : Q (.bool false) s) : wpAny (model prog w) A (compareOp .NotEq (.ref a) (.ref b)) Q E s :=
  spans_ne N ha hb hu (by simpa [e] using h)
theorem SpAt.lit0 {a : Addr} {n : Nat} (h : (a, W.listOf ([] : List Value).toArray n) ∈ news) : SpAt news a [] := ⟨[], n, h, .nil⟩
theorem SpAt.lit1 {a t : Addr} {n k : Nat} {x y : Int} {u v : Tok} (h : (a, W.listOf [Value.ref t].toArray n) ∈ news) (h2 : (t, tupO x y u v k) ∈ news) : SpAt news a [(x, y)] := ⟨_, n, h, SpAll.one h2⟩
theorem list_item_at {value slice : PySem.Expr} {l : Addr} {vs : List Value} {n : Nat} {k : Int} {u : Tok} {v : Value} (N : News h₀ L s.heap news) (hm : (l, W.listOf vs.toArray n) ∈ news) (h0 : 0 ≤ k) (h1 : k < 2 ^ 63) (hx : vs[k.toNat]? = some v) (h : Q v s)
    (hs : subscripted slice false (.ref l) (.int k u) = operate [.ref l, .int k u] (getItem (.ref l) (.int k u)) := by with_unfolding_all rfl) :
    wpAny (model prog w) A (subscriptTail value slice (.ref l) (.int k u)) Q E s := by
  have hl : s.heap.IsList l vs.toArray := ⟨_, (N _ hm).1, rfl, n, rfl⟩
  exact tail_any hl.typeIs slot_list_getitem.lookup (wpAny_getItem_list hl h0 h1 (by simpa using hx) h) hs
theorem list_item_bin {value e1 e2 : PySem.Expr} {op : Operator} {pos : Pos} {l : Addr} {vs : List Value} {n : Nat} {k : Int} {u : Tok} {v : Value} (N : News h₀ L s.heap news) (hm : (l, W.listOf vs.toArray n) ∈ news) (h0 : 0 ≤ k) (h1 : k < 2 ^ 63) (hx : vs[k.toNat]? = some v) (h : Q v s) :
    wpAny (model prog w) A (subscriptTail value (.BinOp e1 op e2 pos) (.ref l) (.int k u)) Q E s := list_item_at N hm h0 h1 hx h
theorem add_lists_at {a b : Addr} {vs ws : List Value} {n1 n2 : Nat} (F : Fr h₀ L s.heap m) (N : News h₀ L s.heap news) (ha : (a, W.listOf vs.toArray n1) ∈ news) (hb : (b, W.listOf ws.toArray n2) ∈ news) (hsz : vs.length + ws.length ≤ 100000)
    (h : ∀ D h', Fr h₀ L h' m → News h₀ L h' ((D, W.listOf (vs ++ ws).toArray 0) :: news) → (∀ q ∈ news, q.1 < D) → Q (.ref D) { s with heap := h' }) :
    wpAny (model prog w) A (binaryOp .Add (.ref a) (.ref b)) Q E s :=
  kmk_add_lit F N ⟨_, (N _ ha).1, rfl, n1, rfl⟩ ⟨_, (N _ hb).1, rfl, n2, rfl⟩ rfl h (by rw [sizeLine_eq]; show vs.length + ws.length ≤ 16777216; omega)
end

section
open LCg LCp LCt
variable {prog : Program} {w : World} {A : Around} {s : Shared} {h₀ : Heap} {L : Addr} {m : Str → Option Value} {env : Env}
theorem compP_ind {elt : PySem.Expr} {x x₂ : Str} {scope : Scope} {cl : List (Str × Addr)} {S : Ledger → Prop} {P : Nat → Value → Prop} {Fin : List Value → Ledger → Prop} (Inv : List Value → List Value → Ledger → Prop)
    (step : ∀ v r ys nw, Inv (v :: r) ys nw → ∃ (t : Addr) (a b : Int) (u w₂ : Tok) (n : Nat), v = .ref t ∧ (t, tupO a b u w₂ n) ∈ nw ∧ ∀ I oI C oC D (m₂ : Str → Option Value) h tk (E' : Value → Shared → Prop), NsObj oC m₂ → m₂ x = some (.int a u) → m₂ x₂ = some (.int b w₂) →
      Fr h₀ L h m → News h₀ L h ((I, oI) :: (C, oC) :: (D, lst ys) :: nw) → Off3 I C D nw → ((@Ne Nat I C) ∧ (@Ne Nat I D) ∧ (@Ne Nat C D)) →
      wpAny (model prog w) A (eval elt (compEnvC scope cl C env)) (CompEnd h₀ L m { s with heap := h, toks := tk } I oI C oC D (lst ys) S (fun y nw' => Inv r (ys ++ [y]) nw')) E' { s with heap := h, toks := tk })
    (fin : ∀ ys nw, Inv [] ys nw → Fin ys nw) :
    ∀ r i ys nw, (∀ j v, P (i + j) v → r[j]? = some v) → Inv r ys nw → CompRestP prog w A h₀ L m env elt x x₂ scope cl s S P Fin r.length i ys nw
  | [], _, ys, nw, _, hi => fin ys nw hi
  | v :: r, i, ys, nw, hP, hi => by
    refine CompRestP.succ fun v' hv' => ?_
    have e : v = v' := by have := hP 0 v' hv'; simpa using this
    subst e
    obtain ⟨t, a, b, u, w₂, n, rfl, hm, turn⟩ := step _ _ _ _ hi
    refine ⟨t, _, _, _, n, rfl, hm, rfl, rfl, fun I oI C oC D m₂ h tk E' hC hx hx2 F N off ne => ?_⟩
    refine wpAny_mono (turn I oI C oC D m₂ h tk E' hC hx hx2 F N off ne) (fun y s₂ h₂ => ?_) fun _ _ e => e
    obtain ⟨h', tk', nw', rfl, F', N', off', hS, hi'⟩ := h₂
    refine ⟨h', tk', nw', rfl, F', N', off', hS, compP_ind Inv step fin r (i + 1) _ nw' (fun j v hv => ?_) hi'⟩
    have := hP (j + 1) v (by rw [show i + (j + 1) = i + 1 + j by omega]; exact hv)
    simpa using this
theorem compU_ind {elt : PySem.Expr} {x : Str} {scope : Scope} {cl : List (Str × Addr)} {S : Ledger → Prop} {P : Nat → Value → Prop} {Fin : List Value → Ledger → Prop} (Inv : Nat → List Value → Ledger → Prop)
    (turn : ∀ k v ys nw I oI C oC D (m₂ : Str → Option Value) h tk (E' : Value → Shared → Prop), Inv (k + 1) ys nw → NsObj oC m₂ → m₂ x = some v →
      Fr h₀ L h m → News h₀ L h ((I, oI) :: (C, oC) :: (D, lst ys) :: nw) → Off3 I C D nw → ((@Ne Nat I C) ∧ (@Ne Nat I D) ∧ (@Ne Nat C D)) →
      wpAny (model prog w) A (eval elt (compEnvC scope cl C env)) (CompEnd h₀ L m { s with heap := h, toks := tk } I oI C oC D (lst ys) S (fun y nw' => Inv k (ys ++ [y]) nw')) E' { s with heap := h, toks := tk })
    (fin : ∀ ys nw, Inv 0 ys nw → Fin ys nw) :
    ∀ k i ys nw, Inv k ys nw → CompRest prog w A h₀ L m env elt x scope cl s S P Fin k i ys nw
  | 0, _, ys, nw, hi => fin ys nw hi
  | k + 1, i, ys, nw, hi => by
    refine CompRest.succ fun v I oI C oC D m₂ h tk E' hv hC hx F N off ne => ?_
    refine wpAny_mono (turn k v ys nw I oI C oC D m₂ h tk E' hi hC hx F N off ne) (fun y s₂ h₂ => ?_) fun _ _ e => e
    obtain ⟨h', tk', nw', rfl, F', N', off', hS, hi'⟩ := h₂
    exact ⟨h', tk', nw', rfl, F', N', off', hS, compU_ind Inv turn fin k (i + 1) _ nw' hi'⟩
theorem compT_ind {ct elt : PySem.Expr} {x : Str} {scope : Scope} {cl : List (Str × Addr)} {S : Ledger → Prop} {P : Nat → Value → Prop} {Fin : List Value → Ledger → Prop} (Inv : List Value → List Value → Ledger → Prop)
    (turn : ∀ v r ys nw I oI C oC D (m₂ : Str → Option Value) h tk (E' : Value → Shared → Prop), Inv (v :: r) ys nw → NsObj oC m₂ → m₂ x = some v →
      Fr h₀ L h m → News h₀ L h ((I, oI) :: (C, oC) :: (D, lst ys) :: nw) → Off3 I C D nw → ((@Ne Nat I C) ∧ (@Ne Nat I D) ∧ (@Ne Nat C D)) →
      wpAny (model prog w) A (isTrue ct (compEnvC scope cl C env) (eval ct (compEnvC scope cl C env))) (fun ok s' => if ok = true then
        wpAny (model prog w) A (eval elt (compEnvC scope cl C env)) (CompEnd h₀ L m { s with heap := h, toks := tk } I oI C oC D (lst ys) S (fun y nw' => Inv r (ys ++ [y]) nw')) E' s'
        else CompEnd h₀ L m { s with heap := h, toks := tk } I oI C oC D (lst ys) S (fun _ nw' => Inv r ys nw') Value.none s') E' { s with heap := h, toks := tk })
    (fin : ∀ ys nw, Inv [] ys nw → Fin ys nw) :
    ∀ r i ys nw, (∀ j v, P (i + j) v → r[j]? = some v) → Inv r ys nw → CompRestT prog w A h₀ L m env ct elt x scope cl s S P Fin r.length i ys nw
  | [], _, ys, nw, _, hi => fin ys nw hi
  | v :: r, i, ys, nw, hP, hi => by
    refine CompRestT.succ fun v' I oI C oC D m₂ h tk E' hv' hC hx F N off ne => ?_
    have e : v = v' := by have := hP 0 v' hv'; simpa using this
    subst e
    have go : ∀ ys' nw', Inv r ys' nw' → CompRestT prog w A h₀ L m env ct elt x scope cl s S P Fin r.length (i + 1) ys' nw' := fun ys' nw' hi' =>
      compT_ind Inv turn fin r (i + 1) ys' nw' (fun j v hv => by
        have := hP (j + 1) v (by rw [show i + (j + 1) = i + 1 + j by omega]; exact hv)
        simpa using this) hi'
    refine wpAny_mono (turn v r ys nw I oI C oC D m₂ h tk E' hi hC hx F N off ne) (fun ok s₂ h₂ => ?_) fun _ _ e => e
    cases ok with
    | true =>
      simp only [if_true] at h₂ ⊢
      refine wpAny_mono h₂ (fun y s₃ h₃ => ?_) fun _ _ e => e
      obtain ⟨h', tk', nw', rfl, F', N', off', hS, hi'⟩ := h₃
      exact ⟨h', tk', nw', rfl, F', N', off', hS, go _ _ hi'⟩
    | false =>
      simp only [Bool.false_eq_true, if_false] at h₂ ⊢
      obtain ⟨h', tk', nw', rfl, F', N', off', hS, hi'⟩ := h₂
      exact ⟨h', tk', nw', rfl, F', N', off', hS, go _ _ hi'⟩
theorem comp_same {I C D : Addr} {oI oC : Obj} {ys : List Value} {S : Ledger → Prop} {rest : Value → Ledger → Prop} {y : Value} {h' : Heap} {tk' : Nat} {nw : Ledger} {s₁ : Shared} (F : Fr h₀ L h' m) (N : News h₀ L h' ((I, oI) :: (C, oC) :: (D, lst ys) :: nw)) (off : Off3 I C D nw) (hS : S nw) (r : rest y nw) :
    CompEnd h₀ L m s₁ I oI C oC D (lst ys) S rest y { s₁ with heap := h', toks := tk' } := ⟨h', tk', nw, rfl, F, N, off, hS, r⟩
theorem comp_one {I C D : Addr} {oI oC : Obj} {ys : List Value} {S : Ledger → Prop} {rest : Value → Ledger → Prop} {y : Value} {h' : Heap} {tk' : Nat} {nw : Ledger} {p : Addr × Obj} {s₁ : Shared} (F : Fr h₀ L h' m) (N : News h₀ L h' (p :: (I, oI) :: (C, oC) :: (D, lst ys) :: nw)) (off : Off3 I C D nw)
    (hp : p.1 ≠ I ∧ p.1 ≠ C ∧ p.1 ≠ D) (hS : S (p :: nw)) (r : rest y (p :: nw)) : CompEnd h₀ L m s₁ I oI C oC D (lst ys) S rest y { s₁ with heap := h', toks := tk' } :=
  ⟨h', tk', p :: nw, rfl, F, fun q hq => N q (by
    rcases List.mem_cons.mp hq with rfl | hq
    · exact .tail _ (.head _)
    rcases List.mem_cons.mp hq with rfl | hq
    · exact .tail _ (.tail _ (.head _))
    rcases List.mem_cons.mp hq with rfl | hq
    · exact .tail _ (.tail _ (.tail _ (.head _)))
    rcases List.mem_cons.mp hq with rfl | hq
    · exact .head _
    · exact .tail _ (.tail _ (.tail _ (.tail _ hq)))), ⟨hp, off⟩, hS, r⟩
theorem src_mem {ax : Addr} {vs : List Value} {n : Nat} {nw : Ledger} (hm : (ax, W.listOf vs.toArray n) ∈ nw) : SrcAt h₀ ax vs.toArray nw := .inr ⟨_, hm, rfl, n, rfl⟩
theorem src_get {vs : List Value} : ∀ j v, (fun i v => vs.toArray[i]? = some v) (0 + j) v → vs[j]? = some v := by
  intro j v h
  simpa using h
theorem size_le {vs : List Value} (h : vs.length ≤ 100000) : vs.toArray.size ≤ sizeLine := by
  rw [sizeLine_eq]
  show vs.length ≤ 16777216
  omega
end
end Mine
end

section
namespace Mine
theorem start_Cut : True := by
  w_top off
  trivial
end Mine
namespace Mine
theorem fill_cut (w : World) (h : Heap) : (hd.heap_39 w.params).In h → PySem.Challenge.rw_sa0562_01.name = PySem.Challenge.rw_sa0562_01.name := by
  k_fill
  intro _
  rfl
local macro_rules | `(tactic| k_mem) => `(tactic| assumption)
local macro_rules | `(tactic| walk_at "call type:list") => `(tactic| (k_here; (with_reducible show wpAny _ _ (call (Value.type _) [Value.ref _]) _ _ _); k_dflt (refine' list_copy_at ?F ?N ?hl ?z ?_; (case F => k_asm); (case N => k_asm); (case hl => k_mem); (case z => omega)); intro D' c' h' F' N' l1; (try k_sweep)))
local macro_rules | `(tactic| k_all) => `(tactic| assumption)
local macro_rules | `(tactic| walk_at "exec For Tuple Name cons nil") => `(tactic| (k_here; (rename Fr _ _ _ _ => lF'); (with_unfolding_all refine' For_turns lF' ?_; k_whole)))

structure CutSt where
  accv : List Value
  k : Nat
  acc : List Sp
  tl : Ledger
  rest : List Sp
theorem cut_call {w : World} {mean : ExcName → Option Value} {mg mb : Str → Option Value} {dp un : Nat} {gd : Option (List Code)} {cn : Str} {cs : Scope} {a : Addr} {ccd : Value} {cl : List (Str × Addr)} {outer : List Env} {A₀ : Around} {base h₀ : Heap} {L : Addr} {m : Str → Option Value} {news : Ledger} {s : Shared}
    {Q E : Value → Shared → Prop} {l : Addr} {xs : List Sp} {low high : Int} {t1 t2 : Tok}
    (B : Below A₀ base outer h₀) (F : Fr h₀ L s.heap m) (X : (hd.heap_39 w.params).In h₀) (N : News h₀ L s.heap news) (T : Top hd.view_39 (looseW hd.view_39 []) mean mg mb h₀) (hk : cs.kind = .function)
    (hx : SpAt news l xs) (hlen : xs.length ≤ 50) (hroom : dp + 5 < recursionLimit)
    (ret : ∀ r tl h' tk', Fr h₀ L h' m → News h₀ L h' (tl ++ news) → (∀ p ∈ tl, ∀ q ∈ news, q.1 < p.1) → SpAt (tl ++ news) r (cutSpan xs low high) → Q (.ref r) { s with heap := h', toks := tk' }) :
    wpAny (model PySem.Challenge.rw_sa0562_01.row.prog w) (ktrTop dp un gd cn cs L a ccd cl outer) (call (.ref (ktn_at% "cut_span")) [.ref l, .int low t1, .int high t2]) Q E s := by
  obtain ⟨vs, n, hm, hv⟩ := hx
  refine wpAny_call ?_
  k_dflt ktr_enter
  k_steps
  rename ∀ p ∈ _, _ < _ => l1
  rename News _ _ _ _ => N1
  rename Fr _ _ _ _ => F1
  rename_i f _ _
  refine list_loop (ax := l) (lo := W.listOf vs.toArray n) (vs := vs) (n := n) [Str.ofString "one", Str.ofString "other"] (fun c : CutSt => (f, W.listOf c.accv.toArray c.k) :: (c.tl ++ news)) (fun _ => [(Str.ofString "spans", .ref l), (Str.ofString "found", .ref f), (Str.ofString "low", .int low t1), (Str.ofString "high", .int high t2)])
    (fun r c => (∀ p ∈ c.tl, f < p.1) ∧ SpAll (c.tl ++ news) c.accv c.acc ∧ SpAll news r c.rest ∧ c.acc ++ cutGo c.rest low high = cutGo xs low high ∧ c.acc.length + 2 * c.rest.length ≤ 2 * xs.length) ⟨[], 0, [], [], xs⟩ rfl F1 N1 (fun _ h => h) rfl rfl ?_ ?_ ?_ ?_ ?_
  · exact fun r c _ => .tail _ (List.mem_append.mpr (.inr hm))
  · kst_all
  · exact ⟨(fun _ h => nomatch h), SpAll.nil, hv, rfl, Nat.le_of_eq (Nat.zero_add _)⟩
  · rintro I o v r c u h tk2 ho hI ⟨hf, ha, hr, he, hl⟩ F2 N2
    obtain ⟨t, x, y, u1, u2, n2, r', rfl, e2, ht, hr'⟩ := hr.uncons
    have hT : IsTup h t #[.int x u1, .int y u2] := News.isTup N2 (.tail _ (.tail _ (List.mem_append.mpr (.inr ht))))
    obtain ⟨accv, k, acc, tl, rest⟩ := c
    dsimp only at e2 hf ha hr he hl F2 N2 hI ⊢
    subst e2
    have hoff : ∀ p ∈ tl ++ news, p.1 ≠ f := fun p hp => (List.mem_append.mp hp).elim (fun h => Nat.ne_of_gt (hf p h)) fun h => Nat.ne_of_lt (l1 p h)
    have hIf : I ≠ f := (hI _ (.head _)).symm
    have hlen9 : accv.length ≤ 100 := by have := ha.length; omega
    k_steps
    all_goals (simp only [mn_eq, mx_eq, List.push_toArray] at *)
    · rename_i D1 _ l1a _ _ _ _ _ _ D2 _ l1b _ F3 h1 h2 N3
      refine' turn_next ⟨accv ++ [.ref D1] ++ [.ref D2], k + 1 + 1, acc ++ cutOne (x, y) low high, (D2, _) :: (D1, _) :: tl, r'⟩ F3 N3 ?q1a ?q1b ?q1c ?q1d ⟨?q1e1, ?q1e2, hr', cut_step he, ?q1e3⟩
      case q1a => k_mem
      case q1b => exact List.forall_mem_cons.mpr ⟨⟨by k_mem, hIf.symm⟩, List.forall_mem_cons.mpr ⟨⟨by k_mem, Nat.ne_of_gt l1b.2.1⟩, List.forall_mem_cons.mpr ⟨⟨by k_mem, Nat.ne_of_gt l1a.1⟩, fun p hp => ⟨by kst_mem, hI p (.tail _ hp)⟩⟩⟩⟩
      case q1c => kst_all
      case q1d => exact same_put rfl (same_put rfl (same_base rfl))
      case q1e1 => exact List.forall_mem_cons.mpr ⟨l1b.2.2.1, List.forall_mem_cons.mpr ⟨l1a.2.1, hf⟩⟩
      case q1e2 =>
        rw [cutOne_both h1 h2, List.append_assoc]
        exact (ha.mono fun _ h => .tail _ (.tail _ h)).append (SpAll.cons (.tail _ (.head _)) (SpAll.one (.head _)))
      case q1e3 =>
        rw [cutOne_both h1 h2]
        simp only [List.length_append, List.length_cons, List.length_nil] at hl ⊢
        omega
    · rename_i D1 _ l1a _ _ _ _ F3 h1 N3 h2
      refine' turn_next ⟨accv ++ [.ref D1], k + 1, acc ++ cutOne (x, y) low high, (D1, _) :: tl, r'⟩ F3 N3 ?q2a ?q2b ?q2c ?q2d ⟨?q2e1, ?q2e2, hr', cut_step he, ?q2e3⟩
      case q2a => k_mem
      case q2b => exact List.forall_mem_cons.mpr ⟨⟨by k_mem, hIf.symm⟩, List.forall_mem_cons.mpr ⟨⟨by k_mem, Nat.ne_of_gt l1a.1⟩, fun p hp => ⟨by kst_mem, hI p (.tail _ hp)⟩⟩⟩
      case q2c => kst_all
      case q2d => exact same_put rfl (same_put rfl (same_base rfl))
      case q2e1 => exact List.forall_mem_cons.mpr ⟨l1a.2.1, hf⟩
      case q2e2 =>
        rw [cutOne_low h1 h2]
        exact (ha.mono fun _ h => .tail _ h).append (SpAll.one (.head _))
      case q2e3 =>
        rw [cutOne_low h1 h2]
        simp only [List.length_append, List.length_cons, List.length_nil] at hl ⊢
        omega
    · rename_i D1 _ l1a _ F3 h1 h2 N3
      refine' turn_next ⟨accv ++ [.ref D1], k + 1, acc ++ cutOne (x, y) low high, (D1, _) :: tl, r'⟩ F3 N3 ?q3a ?q3b ?q3c ?q3d ⟨?q3e1, ?q3e2, hr', cut_step he, ?q3e3⟩
      case q3a => k_mem
      case q3b => exact List.forall_mem_cons.mpr ⟨⟨by k_mem, hIf.symm⟩, List.forall_mem_cons.mpr ⟨⟨by k_mem, Nat.ne_of_gt l1a.1⟩, fun p hp => ⟨by kst_mem, hI p (.tail _ hp)⟩⟩⟩
      case q3c => kst_all
      case q3d => exact same_put rfl (same_put rfl (same_base rfl))
      case q3e1 => exact List.forall_mem_cons.mpr ⟨l1a.2.1, hf⟩
      case q3e2 =>
        rw [cutOne_high h1 h2]
        exact (ha.mono fun _ h => .tail _ h).append (SpAll.one (.head _))
      case q3e3 =>
        rw [cutOne_high h1 h2]
        simp only [List.length_append, List.length_cons, List.length_nil] at hl ⊢
        omega
    · rename_i F3 N3 h1 h2
      refine' turn_next ⟨accv, k, acc ++ cutOne (x, y) low high, tl, r'⟩ F3 N3 ?q4a ?q4b ?q4c ?q4d ⟨hf, ?q4e2, hr', cut_step he, ?q4e3⟩
      case q4a => k_mem
      case q4b => exact fun p hp => ⟨.tail _ hp, hI p hp⟩
      case q4c => kst_all
      case q4d => exact same_put rfl (same_put rfl (same_base rfl))
      case q4e2 =>
        rw [cutOne_none h1 h2, List.append_nil]
        exact ha
      case q4e3 =>
        rw [cutOne_none h1 h2, List.append_nil]
        simp only [List.length_cons] at hl ⊢
        omega
  · rintro c u h tk2 ⟨hf, ha, hr, he, hl⟩ F2 N2
    obtain ⟨accv, k, acc, tl, rest⟩ := c
    dsimp only at hf ha hr he hl F2 N2 ⊢
    have hl2 : (l, W.listOf vs.toArray n) ∈ (f, W.listOf accv.toArray k) :: (tl ++ news) := .tail _ (List.mem_append.mpr (.inr hm))
    k_steps
    have e := hr.unnil
    subst e
    have he' : acc = cutGo xs low high := by rw [← he]; exact (List.append_nil _).symm
    have hlv : vs.length ≤ 50 := by have := hv.length; omega
    · rename_i g1 kF kN _ _
      have e2 : cutSpan xs low high = acc := by rw [cutSpan, if_pos (by omega), he']
      refine ret f ((f, W.listOf accv.toArray k) :: tl) _ _ kF kN (List.forall_mem_cons.mpr ⟨l1, fun p hp q hq => Nat.lt_trans (l1 q hq) (hf p hp)⟩) ⟨accv, k, .head _, ?_⟩
      rw [e2]
      exact ha.mono fun _ h => .tail _ h
    · have e := hr.unnil
      subst e
      have hlv : vs.length ≤ 50 := by have := hv.length; omega
      k_steps
      rename_i g1 D _ _ _ _ l2 kF kN _ _
      have e2 : cutSpan xs low high = xs := by rw [cutSpan, if_neg (by omega)]
      refine ret D ((D, W.listOf vs.toArray _) :: (f, W.listOf accv.toArray k) :: tl) _ _ kF kN (List.forall_mem_cons.mpr ⟨fun q hq => l2 q (.tail _ (List.mem_append.mpr (.inr hq))), List.forall_mem_cons.mpr ⟨l1, fun p hp q hq => Nat.lt_trans (l1 q hq) (hf p hp)⟩⟩) ⟨vs, _, .head _, ?_⟩
      rw [e2]
      exact hv.mono fun _ h => .tail _ (.tail _ (List.mem_append.mpr (.inr h)))
end Mine
end

section
namespace Mine
theorem start_Add : True := by
  w_top off
  trivial
end Mine
namespace Mine
local macro_rules | `(tactic| k_mem) => `(tactic| assumption)
local macro_rules | `(tactic| walk_at "call type:list") => `(tactic| (k_here; (with_reducible show wpAny _ _ (call (Value.type _) [Value.ref _]) _ _ _); k_dflt (refine' list_copy_at ?F ?N ?hl ?z ?_; (case F => k_asm); (case N => k_asm); (case hl => k_mem); (case z => omega)); intro D' c' h' F' N' l1; (try k_sweep)))
local macro_rules | `(tactic| walk_at "binaryOp Add ref ref") => `(tactic| (k_here; (with_reducible show wpAny _ _ (binaryOp _ (Value.ref _) (Value.ref _)) _ _ _); k_dflt (refine' add_lists_at ?F ?N ?a ?b ?z ?_; (case F => k_asm); (case N => k_asm); (case a => k_mem); (case b => k_mem); (case z => (simp only [List.length_cons, List.length_nil]; omega))); intro D' h' F' N' l1; (try k_lt l1); (try k_sweep)))
local macro_rules | `(tactic| k_all) => `(tactic| assumption)
local macro_rules | `(tactic| walk_at "exec For Tuple Name cons nil") => `(tactic| (k_here; (rename Fr _ _ _ _ => lF'); (with_unfolding_all refine' For_turns lF' ?_; k_whole)))

structure AddSt where
  accv : List Value
  k : Nat
  acc : List Sp
  tl : Ledger
  rest : List Sp
  lo : Int
  hi : Int
  t : Tok
  u : Tok
  put : Bool
theorem add_call0 {w : World} {mean : ExcName → Option Value} {mg mb : Str → Option Value} {dp un : Nat} {gd : Option (List Code)} {cn : Str} {cs : Scope} {a : Addr} {ccd : Value} {cl : List (Str × Addr)} {outer : List Env} {A₀ : Around} {base h₀ : Heap} {L : Addr} {m : Str → Option Value} {news sub : Ledger} {s : Shared}
    {Q E : Value → Shared → Prop} {l : Addr} {xs : List Sp} {low high : Int} {t1 t2 : Tok}
    (B : Below A₀ base outer h₀) (F : Fr h₀ L s.heap m) (X : (hd.heap_39 w.params).In h₀) (N : News h₀ L s.heap news) (T : Top hd.view_39 (looseW hd.view_39 []) mean mg mb h₀) (hk : cs.kind = .function)
    (hsub : ∀ p ∈ sub, p ∈ news) (hx : SpAt sub l xs) (hlen : xs.length ≤ 50) (hroom : dp + 5 < recursionLimit)
    (ret : ∀ r tl h' tk', Fr h₀ L h' m → News h₀ L h' (tl ++ news) → (∀ p ∈ tl, ∀ q ∈ news, q.1 < p.1) → SpAt (tl ++ sub) r (addSpan xs low high) → Q (.ref r) { s with heap := h', toks := tk' }) :
    wpAny (model PySem.Challenge.rw_sa0562_01.row.prog w) (ktrTop dp un gd cn cs L a ccd cl outer) (call (.ref (ktn_at% "add_span")) [.ref l, .int low t1, .int high t2]) Q E s := by
  obtain ⟨vs, n, hm0, hv0⟩ := hx
  have hm := hsub _ hm0
  have hv : SpAll news vs xs := hv0.mono hsub
  have hlv : vs.length ≤ 50 := by have := hv.length; omega
  refine wpAny_call ?_
  k_dflt ktr_enter
  k_steps
  · rename_i g1 D c' _ _ N2 l1 kF kN _ _
    have e2 : addSpan xs low high = xs := by rw [addSpan, if_pos g1]
    refine ret D [(D, W.listOf vs.toArray c')] _ _ kF kN (List.forall_mem_cons.mpr ⟨l1, fun _ h => nomatch h⟩) ⟨vs, c', .head _, ?_⟩
    rw [e2]
    exact hv0.mono fun _ h => .tail _ h
  · rename_i g1 f _ l1 D _ _ _ _ _ F1 N1
    refine list_loop (ax := l) (lo := W.listOf vs.toArray n) (vs := vs) (n := n) [Str.ofString "one", Str.ofString "other"] (fun c : AddSt => (f, W.listOf c.accv.toArray c.k) :: (c.tl ++ news)) (fun c => [(Str.ofString "spans", .ref l), (Str.ofString "found", .ref f), (Str.ofString "low", .int c.lo c.t), (Str.ofString "high", .int c.hi c.u), (Str.ofString "is_put", .bool c.put)])
      (fun r c => (∀ p ∈ c.tl, f < p.1) ∧ SpAll c.tl c.accv c.acc ∧ SpAll news r c.rest ∧ c.acc ++ addGo c.rest c.lo c.hi c.put = addGo xs low high false ∧ c.acc.length + c.rest.length + (if c.put then 0 else 1) ≤ xs.length + 1) ⟨[], 0, [], [], xs, low, high, t1, t2, false⟩ rfl F1 N1 (fun _ h => .tail _ h) rfl rfl ?_ ?_ ?_ ?_ ?_
    · exact fun r c _ => .tail _ (List.mem_append.mpr (.inr hm))
    · kst_all
    · exact ⟨(fun _ h => nomatch h), SpAll.nil, hv, rfl, by show 0 + xs.length + 1 ≤ _; omega⟩
    · rintro I o v r c u h tk2 ho hI ⟨hf, ha, hr, he, hl⟩ F2 N2
      obtain ⟨t, x, y, u1, u2, n2, r', rfl, e2, ht, hr'⟩ := hr.uncons
      have hT : IsTup h t #[.int x u1, .int y u2] := News.isTup N2 (.tail _ (.tail _ (List.mem_append.mpr (.inr ht))))
      obtain ⟨accv, k, acc, tl, rest, lo, hi, tt, tu, put⟩ := c
      dsimp only at e2 hf ha hr he hl F2 N2 hI ⊢
      subst e2
      have hoff : ∀ p ∈ tl ++ news, p.1 ≠ f := fun p hp => (List.mem_append.mp hp).elim (fun h => Nat.ne_of_gt (hf p h)) fun h => Nat.ne_of_lt (l1 p h)
      have hIf : I ≠ f := (hI _ (.head _)).symm
      have hlen9 : accv.length ≤ 100 := by have := ha.length; omega
      k_steps
      all_goals (simp only [mn_eq, mx_eq, List.push_toArray] at *)
      · rename_i g1 D1 _ l1a _ F3 N3
        rw [addGo_below g1] at he
        refine' turn_next ⟨accv ++ [.ref D1], k + 1, acc ++ [(x, y)], (D1, _) :: tl, r', lo, hi, tt, tu, put⟩ F3 N3 ?q1a ?q1b ?q1c ?q1d ⟨?q1e1, ?q1e2, hr', ?q1e3, ?q1e4⟩
        case q1a => k_mem
        case q1b => exact List.forall_mem_cons.mpr ⟨⟨by k_mem, hIf.symm⟩, List.forall_mem_cons.mpr ⟨⟨by k_mem, Nat.ne_of_gt l1a.1⟩, fun p hp => ⟨by kst_mem, hI p (.tail _ hp)⟩⟩⟩
        case q1c => kst_all
        case q1d => exact same_put rfl (same_put rfl (same_base rfl))
        case q1e1 => exact List.forall_mem_cons.mpr ⟨l1a.2.1, hf⟩
        case q1e2 => exact (ha.mono fun _ h => .tail _ h).append (SpAll.one (.head _))
        case q1e3 => rw [← he, List.append_assoc]; rfl
        case q1e4 => simp only [List.length_append, List.length_cons, List.length_nil] at hl ⊢; omega
      · rename_i g1 g2 g3 D1 _ l1a _ F3 N3
        subst g3
        rw [addGo_put g1 g2] at he
        refine' turn_next ⟨accv ++ [.ref D1], k + 1, acc ++ [(x, y)], (D1, _) :: tl, r', lo, hi, tt, tu, true⟩ F3 N3 ?q2a ?q2b ?q2c ?q2d ⟨?q2e1, ?q2e2, hr', ?q2e3, ?q2e4⟩
        case q2a => k_mem
        case q2b => exact List.forall_mem_cons.mpr ⟨⟨by k_mem, hIf.symm⟩, List.forall_mem_cons.mpr ⟨⟨by k_mem, Nat.ne_of_gt l1a.1⟩, fun p hp => ⟨by kst_mem, hI p (.tail _ hp)⟩⟩⟩
        case q2c => kst_all
        case q2d => exact same_put rfl (same_put rfl (same_base rfl))
        case q2e1 => exact List.forall_mem_cons.mpr ⟨l1a.2.1, hf⟩
        case q2e2 => exact (ha.mono fun _ h => .tail _ h).append (SpAll.one (.head _))
        case q2e3 => rw [← he, List.append_assoc]; rfl
        case q2e4 => simp only [List.length_append, List.length_cons, List.length_nil, if_true] at hl ⊢; omega
      · rename_i g1 g2 g3 D1 _ l1a _ _ _ D2 _ l1b _ F3 N3
        subst g3
        rw [addGo_new g1 g2] at he
        refine' turn_next ⟨accv ++ [.ref D1] ++ [.ref D2], k + 1 + 1, acc ++ [(lo, hi)] ++ [(x, y)], (D2, _) :: (D1, _) :: tl, r', lo, hi, tt, tu, true⟩ F3 N3 ?q3a ?q3b ?q3c ?q3d ⟨?q3e1, ?q3e2, hr', ?q3e3, ?q3e4⟩
        case q3a => k_mem
        case q3b => exact List.forall_mem_cons.mpr ⟨⟨by k_mem, hIf.symm⟩, List.forall_mem_cons.mpr ⟨⟨by k_mem, Nat.ne_of_gt l1b.2.1⟩, List.forall_mem_cons.mpr ⟨⟨by k_mem, Nat.ne_of_gt l1a.1⟩, fun p hp => ⟨by kst_mem, hI p (.tail _ hp)⟩⟩⟩⟩
        case q3c => kst_all
        case q3d => exact same_put rfl (same_put rfl (same_put rfl (same_base rfl)))
        case q3e1 => exact List.forall_mem_cons.mpr ⟨l1b.2.2.1, List.forall_mem_cons.mpr ⟨l1a.2.1, hf⟩⟩
        case q3e2 => exact ((ha.mono fun _ h => .tail _ (.tail _ h)).append (SpAll.one (.tail _ (.head _)))).append (SpAll.one (.head _))
        case q3e3 => rw [← he, List.append_assoc, List.append_assoc]; rfl
        case q3e4 => simp only [List.length_append, List.length_cons, List.length_nil, if_true, Bool.false_eq_true, if_false] at hl ⊢; omega
      · rename_i g1 g2 _ _ _ _ _ _ l1a _ _ _ F3 N3
        rw [addGo_join g1 g2] at he
        refine' turn_next ⟨accv, k, acc, tl, r', min lo x, max hi y, _, _, put⟩ F3 N3 ?q4a ?q4b ?q4c ?q4d ⟨hf, ha, hr', he, ?q4e4⟩
        case q4a => k_mem
        case q4b => exact fun p hp => ⟨.tail _ (.tail _ hp), hI p hp⟩
        case q4c => kst_all
        case q4d => exact same_put rfl (same_put rfl (same_put rfl (same_put rfl (same_base rfl))))
        case q4e4 => simp only [List.length_cons] at hl ⊢; omega
    · rintro c u h tk2 ⟨hf, ha, hr, he, hl⟩ F2 N2
      obtain ⟨accv, k, acc, tl, rest, lo, hi, tt, tu, put⟩ := c
      dsimp only at hf ha hr he hl F2 N2 ⊢
      have e := hr.unnil
      subst e
      have hlen9 : accv.length ≤ 100 := by have := ha.length; omega
      k_steps
      · rename_i g3 kF kN _ _
        subst g3
        have e2 : addSpan xs low high = acc := by rw [addSpan, if_neg g1, ← he]; exact List.append_nil _
        refine ret f ((f, W.listOf accv.toArray k) :: tl) _ _ kF kN (List.forall_mem_cons.mpr ⟨l1, fun p hp q hq => Nat.lt_trans (l1 q hq) (hf p hp)⟩) ⟨accv, k, .head _, ?_⟩
        rw [e2]
        exact ha.mono fun _ h => .tail _ (List.mem_append.mpr (.inl h))
      · rename_i g3 D1 _ l1a D2 _ l1b D3 _ _ _ l1c kF kN _ _
        subst g3
        have e2 : addSpan xs low high = acc ++ [(lo, hi)] := by rw [addSpan, if_neg g1, ← he]; rfl
        have hq : ∀ q ∈ news, q.1 < f := l1
        refine ret D3 ([(D3, _), (D2, _), (D1, _), (f, W.listOf accv.toArray k)] ++ tl) _ _ kF kN ?_ ⟨accv ++ [.ref D1], _, .head _, ?_⟩
        · have h3 : f < D3 := l1c.2.2.1
          have h2 : f < D2 := l1b.2.1
          have h1 : f < D1 := l1a.1
          exact List.forall_mem_cons.mpr ⟨fun q hq => Nat.lt_trans (l1 q hq) h3, List.forall_mem_cons.mpr ⟨fun q hq => Nat.lt_trans (l1 q hq) h2, List.forall_mem_cons.mpr ⟨fun q hq => Nat.lt_trans (l1 q hq) h1, List.forall_mem_cons.mpr ⟨l1, fun p hp q hq => Nat.lt_trans (l1 q hq) (hf p hp)⟩⟩⟩⟩
        · rw [e2]
          exact (ha.mono fun _ h => .tail _ (.tail _ (.tail _ (.tail _ (List.mem_append.mpr (.inl h)))))).append (SpAll.one (.tail _ (.tail _ (.head _))))
theorem add_call {w : World} {mean : ExcName → Option Value} {mg mb : Str → Option Value} {dp un : Nat} {gd : Option (List Code)} {cn : Str} {cs : Scope} {a : Addr} {ccd : Value} {cl : List (Str × Addr)} {outer : List Env} {A₀ : Around} {base h₀ : Heap} {L : Addr} {m : Str → Option Value} {news : Ledger} {s : Shared}
    {Q E : Value → Shared → Prop} {l : Addr} {xs : List Sp} {low high : Int} {t1 t2 : Tok}
    (B : Below A₀ base outer h₀) (F : Fr h₀ L s.heap m) (X : (hd.heap_39 w.params).In h₀) (N : News h₀ L s.heap news) (T : Top hd.view_39 (looseW hd.view_39 []) mean mg mb h₀) (hk : cs.kind = .function)
    (hx : SpAt news l xs) (hlen : xs.length ≤ 50) (hroom : dp + 5 < recursionLimit)
    (ret : ∀ r tl h' tk', Fr h₀ L h' m → News h₀ L h' (tl ++ news) → (∀ p ∈ tl, ∀ q ∈ news, q.1 < p.1) → SpAt (tl ++ news) r (addSpan xs low high) → Q (.ref r) { s with heap := h', toks := tk' }) :
    wpAny (model PySem.Challenge.rw_sa0562_01.row.prog w) (ktrTop dp un gd cn cs L a ccd cl outer) (call (.ref (ktn_at% "add_span")) [.ref l, .int low t1, .int high t2]) Q E s := by
  exact add_call0 B F X N T hk (fun _ h => h) hx hlen hroom ret
end Mine
end

section
namespace Mine
theorem start_Wo : True := by
  w_top off
  trivial
end Mine
namespace Mine
local macro_rules | `(tactic| k_mem) => `(tactic| assumption)
local macro_rules | `(tactic| walk_at "call type:list") => `(tactic| (k_here; (with_reducible show wpAny _ _ (call (Value.type _) [Value.ref _]) _ _ _); k_dflt (refine' list_copy_at ?F ?N ?hl ?z ?_; (case F => k_asm); (case N => k_asm); (case hl => k_mem); (case z => omega)); intro D' c' h' F' N' l1; (try k_sweep)))
local macro_rules | `(tactic| walk_at "binaryOp Add ref ref") => `(tactic| (k_here; (with_reducible show wpAny _ _ (binaryOp _ (Value.ref _) (Value.ref _)) _ _ _); k_dflt (refine' add_lists_at ?F ?N ?a ?b ?z ?_; (case F => k_asm); (case N => k_asm); (case a => k_mem); (case b => k_mem); (case z => (simp only [List.length_cons, List.length_nil]; omega))); intro D' h' F' N' l1; (try k_lt l1); (try k_sweep)))
local macro_rules | `(tactic| k_all) => `(tactic| assumption)
local macro_rules | `(tactic| walk_at "exec For Tuple Name cons nil") => `(tactic| (k_here; (rename Fr _ _ _ _ => lF'); (with_unfolding_all refine' For_turns lF' ?_; k_whole)))
local macro_rules | `(tactic| ktr_rel) => `(tactic| first | assumption | (refine' SpAt.right ?ktrA; (case ktrA => ktr_rel)) | (refine' SpAt.tail ?ktrA; (case ktrA => ktr_rel)))
local macro_rules | `(tactic| walk_at "call ref") => `(tactic| (k_here; (with_reducible show wpAny _ _ (call (Value.ref _) _) _ _ _); k_dflt (refine' cut_call ?k1 ?k2 ?k3 ?k4 ?k5 ?kK ?hx ?hl ?hr ?_; (case k1 => k_asm); (case k2 => k_asm); (case k3 => k_asm); (case k4 => k_asm); (case k5 => k_asm); (case kK => first | exact rfl | assumption); (case hx => ktr_rel); (case hl => first | assumption | omega); (case hr => ktr_room)); intro r9 tl9 h9 tk9 F9 N9 hl9 ho9; (try dsimp only); (try k_fold)))
structure WoSt where
  fo : Addr
  cur : List Sp
  tl : Ledger
  rest : List Sp
theorem without_call {w : World} {mean : ExcName → Option Value} {mg mb : Str → Option Value} {dp un : Nat} {gd : Option (List Code)} {cn : Str} {cs : Scope} {a : Addr} {ccd : Value} {cl : List (Str × Addr)} {outer : List Env} {A₀ : Around} {base h₀ : Heap} {L : Addr} {m : Str → Option Value} {news : Ledger} {s : Shared}
    {Q E : Value → Shared → Prop} {l l2 : Addr} {xs ys : List Sp}
    (B : Below A₀ base outer h₀) (F : Fr h₀ L s.heap m) (X : (hd.heap_39 w.params).In h₀) (N : News h₀ L s.heap news) (T : Top hd.view_39 (looseW hd.view_39 []) mean mg mb h₀) (hk : cs.kind = .function)
    (hx : SpAt news l xs) (hy : SpAt news l2 ys) (hg : Good xs) (hroom : dp + 10 < recursionLimit)
    (ret : ∀ r tl h' tk', Fr h₀ L h' m → News h₀ L h' (tl ++ news) → (∀ p ∈ tl, ∀ q ∈ news, q.1 < p.1) → SpAt (tl ++ news) r (without xs ys) → Good (without xs ys) → Q (.ref r) { s with heap := h', toks := tk' }) :
    wpAny (model PySem.Challenge.rw_sa0562_01.row.prog w) (ktrTop dp un gd cn cs L a ccd cl outer) (call (.ref (ktn_at% "without_spans")) [.ref l, .ref l2]) Q E s := by
  obtain ⟨vs, n, hm, hv⟩ := hx
  obtain ⟨ws, n2, hm2, hw⟩ := hy
  have hlv : vs.length ≤ 20 := by have := hv.length; have := hg.len; omega
  refine wpAny_call ?_
  k_dflt ktr_enter
  k_steps
  rename_i D c0 _ l1 _ F1 N1
  refine list_loop (ax := l2) (lo := W.listOf ws.toArray n2) (vs := ws) (n := n2) [Str.ofString "low", Str.ofString "high"] (fun c : WoSt => c.tl ++ news) (fun c => [(Str.ofString "spans", .ref l), (Str.ofString "others", .ref l2), (Str.ofString "found", .ref c.fo)])
    (fun r c => (∀ p ∈ c.tl, ∀ q ∈ news, q.1 < p.1) ∧ SpAt (c.tl ++ news) c.fo c.cur ∧ Good c.cur ∧ SpAll news r c.rest ∧ without c.cur c.rest = without xs ys) ⟨D, xs, [(D, W.listOf vs.toArray c0)], ys⟩ rfl F1 N1 (fun _ h => h) rfl rfl ?_ ?_ ?_ ?_ ?_
  · exact fun r c _ => List.mem_append.mpr (.inr hm2)
  · kst_all
  · exact ⟨List.forall_mem_cons.mpr ⟨l1, fun _ h => nomatch h⟩, ⟨vs, c0, .head _, hv.mono fun _ h => .tail _ h⟩, hg, hw, rfl⟩
  · rintro I o v r c u h tk2 ho hI ⟨hf, ha, hgc, hr, he⟩ F2 N2
    obtain ⟨t, x, y, u1, u2, n2, r', rfl, e2, ht, hr'⟩ := hr.uncons
    have hT : IsTup h t #[.int x u1, .int y u2] := News.isTup N2 (.tail _ (List.mem_append.mpr (.inr ht)))
    obtain ⟨fo, cur, tl, rest⟩ := c
    dsimp only at e2 hf ha hgc hr he F2 N2 hI ⊢
    subst e2
    have hlen9 : cur.length ≤ 50 := by have := hgc.len; omega
    k_steps
    rename_i r9 tl9 _ _ hl9 ho9 _ F3 N3
    refine' turn_next ⟨r9, cutSpan cur x y, tl9 ++ tl, r'⟩ F3 N3 ?q1a (led_call hI hl9) ?q1c ?q1d ⟨fresh_call hf hl9, at_call ho ho9, hgc.cut x y, hr', he⟩
    case q1a => exact List.mem_append.mpr (.inr (.head _))
    case q1c => kst_all
    case q1d => exact same_put rfl (same_put rfl (same_put rfl (same_base rfl)))
  · rintro c u h tk2 ⟨hf, ha, hgc, hr, he⟩ F2 N2
    obtain ⟨fo, cur, tl, rest⟩ := c
    dsimp only at hf ha hgc hr he F2 N2 ⊢
    have e := hr.unnil
    subst e
    k_steps
    rename_i kF kN _ _
    exact ret fo tl _ _ kF kN hf (he ▸ ha) (hg.without ys)
end Mine
end

section
namespace Mine
theorem start_Bo : True := by
  w_top off
  trivial
end Mine
local macro_rules | `(tactic| walk_at "zz0") => `(tactic| fail)
namespace Mine
local macro_rules | `(tactic| k_mem) => `(tactic| assumption)
local macro_rules | `(tactic| walk_at "call type:list") => `(tactic| (k_here; (with_reducible show wpAny _ _ (call (Value.type _) [Value.ref _]) _ _ _); k_dflt (refine' list_copy_at ?F ?N ?hl ?z ?_; (case F => k_asm); (case N => k_asm); (case hl => k_mem); (case z => omega)); intro D' c' h' F' N' l1; (try k_sweep)))
local macro_rules | `(tactic| walk_at "binaryOp Add ref ref") => `(tactic| (k_here; (with_reducible show wpAny _ _ (binaryOp _ (Value.ref _) (Value.ref _)) _ _ _); k_dflt (refine' add_lists_at ?F ?N ?a ?b ?z ?_; (case F => k_asm); (case N => k_asm); (case a => k_mem); (case b => k_mem); (case z => (simp only [List.length_cons, List.length_nil]; omega))); intro D' h' F' N' l1; (try k_lt l1); (try k_sweep)))
local macro_rules | `(tactic| k_all) => `(tactic| assumption)
local macro_rules | `(tactic| walk_at "exec For Tuple Name cons nil") => `(tactic| (k_here; (rename Fr _ _ _ _ => lF'); (with_unfolding_all refine' For_turns lF' ?_; k_whole)))
local macro_rules | `(tactic| ktr_rel) => `(tactic| first | assumption | (refine' SpAt.right ?ktrA; (case ktrA => ktr_rel)) | (refine' SpAt.tail ?ktrA; (case ktrA => ktr_rel)))
local macro_rules | `(tactic| walk_at "call ref") => `(tactic| (k_here; (with_reducible show wpAny _ _ (call (Value.ref _) _) _ _ _); k_dflt (refine' add_call ?k1 ?k2 ?k3 ?k4 ?k5 ?kK ?hx ?hl ?hr ?_; (case k1 => k_asm); (case k2 => k_asm); (case k3 => k_asm); (case k4 => k_asm); (case k5 => k_asm); (case kK => first | exact rfl | assumption); (case hx => ktr_rel); (case hl => first | assumption | omega); (case hr => ktr_room)); intro r9 tl9 h9 tk9 F9 N9 hl9 ho9; (try dsimp only); (try k_fold)))
structure BoSt where
  fo : Addr
  cur : List Sp
  tl : Ledger
  rest : List Sp
theorem both_call {w : World} {mean : ExcName → Option Value} {mg mb : Str → Option Value} {dp un : Nat} {gd : Option (List Code)} {cn : Str} {cs : Scope} {a : Addr} {ccd : Value} {cl : List (Str × Addr)} {outer : List Env} {A₀ : Around} {base h₀ : Heap} {L : Addr} {m : Str → Option Value} {news : Ledger} {s : Shared}
    {Q E : Value → Shared → Prop} {l l2 : Addr} {xs ys : List Sp}
    (B : Below A₀ base outer h₀) (F : Fr h₀ L s.heap m) (X : (hd.heap_39 w.params).In h₀) (N : News h₀ L s.heap news) (T : Top hd.view_39 (looseW hd.view_39 []) mean mg mb h₀) (hk : cs.kind = .function)
    (hx : SpAt news l xs) (hy : SpAt news l2 ys) (hg : Good xs) (hg2 : Good ys) (hroom : dp + 10 < recursionLimit)
    (ret : ∀ r tl h' tk', Fr h₀ L h' m → News h₀ L h' (tl ++ news) → (∀ p ∈ tl, ∀ q ∈ news, q.1 < p.1) → SpAt (tl ++ news) r (both xs ys) → Good (both xs ys) → Q (.ref r) { s with heap := h', toks := tk' }) :
    wpAny (model PySem.Challenge.rw_sa0562_01.row.prog w) (ktrTop dp un gd cn cs L a ccd cl outer) (call (.ref (ktn_at% "_law_both")) [.ref l, .ref l2]) Q E s := by
  obtain ⟨ws, n2, hm2, hw⟩ := hy
  refine wpAny_call ?_
  k_dflt ktr_enter
  k_steps
  rename Fr _ _ _ _ => F1
  rename News _ _ _ _ => N1
  refine list_loop (ax := l2) (lo := W.listOf ws.toArray n2) (vs := ws) (n := n2) [Str.ofString "low", Str.ofString "high"] (fun c : BoSt => c.tl ++ news) (fun c => [(Str.ofString "one", .ref l), (Str.ofString "other", .ref l2), (Str.ofString "found", .ref c.fo)])
    (fun r c => (∀ p ∈ c.tl, ∀ q ∈ news, q.1 < p.1) ∧ SpAt (c.tl ++ news) c.fo c.cur ∧ Good c.cur ∧ SpAll news r c.rest ∧ In 0 20 c.rest ∧ both c.cur c.rest = both xs ys) ⟨l, xs, [], ys⟩ rfl F1 N1 (fun _ h => h) rfl rfl ?_ ?_ ?_ ?_ ?_
  · exact fun r c _ => List.mem_append.mpr (.inr hm2)
  · kst_all
  · exact ⟨(fun _ h => nomatch h), hx, hg, hw, hg2.2, rfl⟩
  · rintro I o v r c u h tk2 ho hI ⟨hf, ha, hgc, hr, hin, he⟩ F2 N2
    obtain ⟨t, x, y, u1, u2, n2, r', rfl, e2, ht, hr'⟩ := hr.uncons
    have hT : IsTup h t #[.int x u1, .int y u2] := News.isTup N2 (.tail _ (List.mem_append.mpr (.inr ht)))
    obtain ⟨fo, cur, tl, rest⟩ := c
    dsimp only at e2 hf ha hgc hr hin he F2 N2 hI ⊢
    subst e2
    have hlen9 : cur.length ≤ 50 := by have := hgc.len; omega
    k_steps
    rename_i r9 tl9 _ _ hl9 ho9 _ F3 N3
    refine' turn_next ⟨r9, addSpan cur x y, tl9 ++ tl, r'⟩ F3 N3 ?q1a (led_call hI hl9) ?q1c ?q1d ⟨fresh_call hf hl9, at_call ho ho9, hgc.add (hin _ (.head _)).1 (hin _ (.head _)).2, hr', fun p hp => hin p (.tail _ hp), he⟩
    case q1a => exact List.mem_append.mpr (.inr (.head _))
    case q1c => kst_all
    case q1d => exact same_put rfl (same_put rfl (same_put rfl (same_base rfl)))
  · rintro c u h tk2 ⟨hf, ha, hgc, hr, hin, he⟩ F2 N2
    obtain ⟨fo, cur, tl, rest⟩ := c
    dsimp only at hf ha hgc hr hin he F2 N2 ⊢
    have e := hr.unnil
    subst e
    k_steps
    rename_i kF kN _ _
    exact ret fo tl _ _ kF kN hf (he ▸ ha) (hg.both hg2.2)
end Mine
end

section
namespace Mine
theorem start_Co : True := by
  w_top off
  trivial
end Mine
local macro_rules | `(tactic| walk_at "zz0") => `(tactic| fail)
namespace Mine
local macro_rules | `(tactic| k_mem) => `(tactic| assumption)
local macro_rules | `(tactic| walk_at "call type:list") => `(tactic| (k_here; (with_reducible show wpAny _ _ (call (Value.type _) [Value.ref _]) _ _ _); k_dflt (refine' list_copy_at ?F ?N ?hl ?z ?_; (case F => k_asm); (case N => k_asm); (case hl => k_mem); (case z => omega)); intro D' c' h' F' N' l1; (try k_sweep)))
local macro_rules | `(tactic| walk_at "binaryOp Add ref ref") => `(tactic| (k_here; (with_reducible show wpAny _ _ (binaryOp _ (Value.ref _) (Value.ref _)) _ _ _); k_dflt (refine' add_lists_at ?F ?N ?a ?b ?z ?_; (case F => k_asm); (case N => k_asm); (case a => k_mem); (case b => k_mem); (case z => (simp only [List.length_cons, List.length_nil]; omega))); intro D' h' F' N' l1; (try k_lt l1); (try k_sweep)))
local macro_rules | `(tactic| k_all) => `(tactic| assumption)
local macro_rules | `(tactic| walk_at "exec For Tuple Name cons nil") => `(tactic| (k_here; (rename Fr _ _ _ _ => lF'); (with_unfolding_all refine' For_turns lF' ?_; k_whole)))
local macro_rules | `(tactic| ktr_rel) => `(tactic| first | assumption | (refine' SpAt.right ?ktrA; (case ktrA => ktr_rel)) | (refine' SpAt.tail ?ktrA; (case ktrA => ktr_rel)))
local macro_rules | `(tactic| walk_at "call ref") => `(tactic| (k_here; (with_reducible show wpAny _ _ (call (Value.ref (ktn_at% "without_spans")) _) _ _ _); k_dflt (refine' without_call ?k1 ?k2 ?k3 ?k4 ?k5 ?kK ?hx0 ?hx1 ?hg ?hr ?_; (case k1 => k_asm); (case k2 => k_asm); (case k3 => k_asm); (case k4 => k_asm); (case k5 => k_asm); (case kK => first | exact rfl | assumption); (case hx0 => ktr_rel); (case hx1 => ktr_rel); (case hg => assumption); (case hr => ktr_room)); intro r9 tl9 h9 tk9 F9 N9 hl9 ho9 hg9; (try dsimp only); (try k_fold)))
local macro_rules | `(tactic| walk_at "call ref") => `(tactic| (k_here; (with_reducible show wpAny _ _ (call (Value.ref (ktn_at% "_law_both")) _) _ _ _); k_dflt (refine' both_call ?k1 ?k2 ?k3 ?k4 ?k5 ?kK ?hx0 ?hx1 ?hg ?hg2 ?hr ?_; (case k1 => k_asm); (case k2 => k_asm); (case k3 => k_asm); (case k4 => k_asm); (case k5 => k_asm); (case kK => first | exact rfl | assumption); (case hx0 => ktr_rel); (case hx1 => ktr_rel); (case hg => assumption); (case hg2 => assumption); (case hr => ktr_room)); intro r9 tl9 h9 tk9 F9 N9 hl9 ho9 hg9; (try dsimp only); (try k_fold)))
theorem common_call {w : World} {mean : ExcName → Option Value} {mg mb : Str → Option Value} {dp un : Nat} {gd : Option (List Code)} {cn : Str} {cs : Scope} {a : Addr} {ccd : Value} {cl : List (Str × Addr)} {outer : List Env} {A₀ : Around} {base h₀ : Heap} {L : Addr} {m : Str → Option Value} {news : Ledger} {s : Shared}
    {Q E : Value → Shared → Prop} {l l2 : Addr} {xs ys : List Sp}
    (B : Below A₀ base outer h₀) (F : Fr h₀ L s.heap m) (X : (hd.heap_39 w.params).In h₀) (N : News h₀ L s.heap news) (T : Top hd.view_39 (looseW hd.view_39 []) mean mg mb h₀) (hk : cs.kind = .function)
    (hx : SpAt news l xs) (hy : SpAt news l2 ys) (hg : Good xs) (hroom : dp + 15 < recursionLimit)
    (ret : ∀ r tl h' tk', Fr h₀ L h' m → News h₀ L h' (tl ++ news) → (∀ p ∈ tl, ∀ q ∈ news, q.1 < p.1) → SpAt (tl ++ news) r (common xs ys) → Good (common xs ys) → Q (.ref r) { s with heap := h', toks := tk' }) :
    wpAny (model PySem.Challenge.rw_sa0562_01.row.prog w) (ktrTop dp un gd cn cs L a ccd cl outer) (call (.ref (ktn_at% "_law_common")) [.ref l, .ref l2]) Q E s := by
  refine wpAny_call ?_
  k_dflt ktr_enter
  k_steps
  rename_i r1 tl1 _ _ _ _ hl1 ho1 hg1 r2 tl2 _ _ _ _ hl2 ho2 hg2 kF kN _ _
  rw [← List.append_assoc] at kN ho2
  exact ret r2 (tl2 ++ tl1) _ _ kF kN (fresh_two hl1 hl2) ho2 hg2
theorem apart_call {w : World} {mean : ExcName → Option Value} {mg mb : Str → Option Value} {dp un : Nat} {gd : Option (List Code)} {cn : Str} {cs : Scope} {a : Addr} {ccd : Value} {cl : List (Str × Addr)} {outer : List Env} {A₀ : Around} {base h₀ : Heap} {L : Addr} {m : Str → Option Value} {news : Ledger} {s : Shared}
    {Q E : Value → Shared → Prop} {l l2 : Addr} {xs ys : List Sp}
    (B : Below A₀ base outer h₀) (F : Fr h₀ L s.heap m) (X : (hd.heap_39 w.params).In h₀) (N : News h₀ L s.heap news) (T : Top hd.view_39 (looseW hd.view_39 []) mean mg mb h₀) (hk : cs.kind = .function)
    (hx : SpAt news l xs) (hy : SpAt news l2 ys) (hg : Good xs) (hg2 : Good ys) (hroom : dp + 15 < recursionLimit)
    (ret : ∀ r tl h' tk', Fr h₀ L h' m → News h₀ L h' (tl ++ news) → (∀ p ∈ tl, ∀ q ∈ news, q.1 < p.1) → SpAt (tl ++ news) r (apart xs ys) → Good (apart xs ys) → Q (.ref r) { s with heap := h', toks := tk' }) :
    wpAny (model PySem.Challenge.rw_sa0562_01.row.prog w) (ktrTop dp un gd cn cs L a ccd cl outer) (call (.ref (ktn_at% "_law_apart")) [.ref l, .ref l2]) Q E s := by
  refine wpAny_call ?_
  k_dflt ktr_enter
  k_steps
  rename_i r1 tl1 _ _ _ _ hl1 ho1 hg1 _ _ r2 tl2 _ _ _ _ hl2 ho2 hg2 r3 tl3 _ _ _ _ hl3 ho3 hg3 kF kN _ _
  rw [← List.append_assoc] at kN ho3
  rw [← List.append_assoc] at kN ho3
  exact ret r3 (tl3 ++ tl2 ++ tl1) _ _ kF kN (fresh_three hl1 hl2 hl3) ho3 hg3
end Mine
end

section
namespace Mine
theorem start_Ha : True := by
  w_top off
  trivial
end Mine
local macro_rules | `(tactic| walk_at "zz0") => `(tactic| fail)
local macro_rules | `(tactic| walk_at "zz1") => `(tactic| fail)
local macro_rules | `(tactic| walk_at "zz2") => `(tactic| fail)
local macro_rules | `(tactic| walk_at "zz3") => `(tactic| fail)
namespace Mine
local macro_rules | `(tactic| k_mem) => `(tactic| assumption)
local macro_rules | `(tactic| walk_at "call type:list") => `(tactic| (k_here; (with_reducible show wpAny _ _ (call (Value.type _) [Value.ref _]) _ _ _); k_dflt (refine' list_copy_at ?F ?N ?hl ?z ?_; (case F => k_asm); (case N => k_asm); (case hl => k_mem); (case z => omega)); intro D' c' h' F' N' l1; (try k_sweep)))
local macro_rules | `(tactic| walk_at "binaryOp Add ref ref") => `(tactic| (k_here; (with_reducible show wpAny _ _ (binaryOp _ (Value.ref _) (Value.ref _)) _ _ _); k_dflt (refine' add_lists_at ?F ?N ?a ?b ?z ?_; (case F => k_asm); (case N => k_asm); (case a => k_mem); (case b => k_mem); (case z => (simp only [List.length_cons, List.length_nil]; omega))); intro D' h' F' N' l1; (try k_lt l1); (try k_sweep)))
local macro_rules | `(tactic| k_all) => `(tactic| assumption)
local macro_rules | `(tactic| walk_at "exec For Tuple Name cons nil") => `(tactic| (k_here; (rename Fr _ _ _ _ => lF'); (with_unfolding_all refine' For_turns lF' ?_; k_whole)))
local macro_rules | `(tactic| ktr_rel) => `(tactic| first | assumption | (refine' SpAt.right ?ktrA; (case ktrA => ktr_rel)) | (refine' SpAt.tail ?ktrA; (case ktrA => ktr_rel)))
theorem hasGo_cons (p : Sp) (r : List Sp) (lo hi : Int) : hasGo (p :: r) lo hi = ((decide (p.1 ≤ lo) && decide (hi ≤ p.2)) || hasGo r lo hi) := rfl
structure HaSt where
  rest : List Sp
theorem has_call {w : World} {mean : ExcName → Option Value} {mg mb : Str → Option Value} {dp un : Nat} {gd : Option (List Code)} {cn : Str} {cs : Scope} {a : Addr} {ccd : Value} {cl : List (Str × Addr)} {outer : List Env} {A₀ : Around} {base h₀ : Heap} {L : Addr} {m : Str → Option Value} {news : Ledger} {s : Shared}
    {Q E : Value → Shared → Prop} {l : Addr} {xs : List Sp} {low high : Int} {t1 t2 : Tok}
    (B : Below A₀ base outer h₀) (F : Fr h₀ L s.heap m) (X : (hd.heap_39 w.params).In h₀) (N : News h₀ L s.heap news) (T : Top hd.view_39 (looseW hd.view_39 []) mean mg mb h₀) (hk : cs.kind = .function)
    (hx : SpAt news l xs) (hroom : dp + 5 < recursionLimit)
    (ret : ∀ tl h' tk', Fr h₀ L h' m → News h₀ L h' (tl ++ news) → Q (.bool (hasSpan xs low high)) { s with heap := h', toks := tk' }) :
    wpAny (model PySem.Challenge.rw_sa0562_01.row.prog w) (ktrTop dp un gd cn cs L a ccd cl outer) (call (.ref (ktn_at% "has_span")) [.ref l, .int low t1, .int high t2]) Q E s := by
  obtain ⟨vs, n, hm, hv⟩ := hx
  refine wpAny_call ?_
  k_dflt ktr_enter
  k_steps
  · rename_i g1 kF kN _ _
    have e : hasSpan xs low high = true := by rw [hasSpan, if_pos g1]
    rw [e] at ret
    exact ret [] _ _ kF kN
  · rename_i _ F1 N1 _ _ _ g1
    have e0 : hasSpan xs low high = hasGo xs low high := by rw [hasSpan, if_neg g1]
    rw [e0] at ret
    refine list_loop (ax := l) (lo := W.listOf vs.toArray n) (vs := vs) (n := n) [Str.ofString "one", Str.ofString "other"] (fun c : HaSt => news) (fun c => [(Str.ofString "spans", .ref l), (Str.ofString "low", .int low t1), (Str.ofString "high", .int high t2)])
      (fun r c => SpAll news r c.rest ∧ hasGo c.rest low high = hasGo xs low high) ⟨xs⟩ rfl F1 N1 (fun _ h => h) rfl rfl ?_ ?_ ?_ ?_ ?_
    · exact fun r c _ => hm
    · kst_all
    · exact ⟨hv, rfl⟩
    · rintro I o v r c u h tk2 ho hI ⟨hr, he⟩ F2 N2
      obtain ⟨t, x, y, u1, u2, n2, r', rfl, e2, ht, hr'⟩ := hr.uncons
      have hT : IsTup h t #[.int x u1, .int y u2] := News.isTup N2 (.tail _ ht)
      obtain ⟨rest⟩ := c
      dsimp only at e2 hr he F2 N2 hI ⊢
      subst e2
      k_steps
      · rename_i g2 g3
        dsimp only [TurnPost]
        k_steps
        rename_i kF kN _ _
        rw [← he, hasGo_cons, decide_eq_true g2, decide_eq_true g3] at ret
        exact ret [_] _ _ kF kN
      · rename_i F3 N3 g2 g3
        refine' turn_next ⟨r'⟩ F3 N3 (by k_mem) (fun p hp => ⟨.tail _ hp, hI p hp⟩) ?q1c (same_put rfl (same_put rfl (same_base rfl))) ⟨hr', ?q1e⟩
        case q1c => kst_all
        case q1e => rw [← he, hasGo_cons, decide_eq_false g3, Bool.and_false]; rfl
      · rename_i F3 N3 g2
        refine' turn_next ⟨r'⟩ F3 N3 (by k_mem) (fun p hp => ⟨.tail _ hp, hI p hp⟩) ?q2c (same_put rfl (same_put rfl (same_base rfl))) ⟨hr', ?q2e⟩
        case q2c => kst_all
        case q2e => rw [← he, hasGo_cons, decide_eq_false g2, Bool.false_and]; rfl
    · rintro c u h tk2 ⟨hr, he⟩ F2 N2
      obtain ⟨rest⟩ := c
      dsimp only at hr he F2 N2 ⊢
      have e := hr.unnil
      subst e
      k_steps
      rename_i kF kN _ _
      rw [← he] at ret
      exact ret [] _ _ kF kN
end Mine
end

section
namespace Mine
theorem start_Sn : True := by
  w_top off
  trivial
end Mine
local macro_rules | `(tactic| walk_at "zz0") => `(tactic| fail)
local macro_rules | `(tactic| walk_at "zz1") => `(tactic| fail)
local macro_rules | `(tactic| walk_at "zz2") => `(tactic| fail)
local macro_rules | `(tactic| walk_at "zz3") => `(tactic| fail)
namespace Mine
local macro_rules | `(tactic| k_mem) => `(tactic| assumption)
local macro_rules | `(tactic| walk_at "call type:list") => `(tactic| (k_here; (with_reducible show wpAny _ _ (call (Value.type _) [Value.ref _]) _ _ _); k_dflt (refine' list_copy_at ?F ?N ?hl ?z ?_; (case F => k_asm); (case N => k_asm); (case hl => k_mem); (case z => omega)); intro D' c' h' F' N' l1; (try k_sweep)))
local macro_rules | `(tactic| walk_at "binaryOp Add ref ref") => `(tactic| (k_here; (with_reducible show wpAny _ _ (binaryOp _ (Value.ref _) (Value.ref _)) _ _ _); k_dflt (refine' add_lists_at ?F ?N ?a ?b ?z ?_; (case F => k_asm); (case N => k_asm); (case a => k_mem); (case b => k_mem); (case z => (simp only [List.length_cons, List.length_nil]; omega))); intro D' h' F' N' l1; (try k_lt l1); (try k_sweep)))
local macro_rules | `(tactic| k_all) => `(tactic| assumption)
local macro_rules | `(tactic| walk_at "exec For Tuple Name cons nil") => `(tactic| (k_here; (rename Fr _ _ _ _ => lF'); (with_unfolding_all refine' For_turns lF' ?_; k_whole)))
local macro_rules | `(tactic| ktr_rel) => `(tactic| first | assumption | (refine' SpAt.right ?ktrA; (case ktrA => ktr_rel)) | (refine' SpAt.tail ?ktrA; (case ktrA => ktr_rel)))
local macro_rules | `(tactic| walk_at "eval ListComp") => `(tactic| (k_here; lcp_look; k_dflt (refine LCp.ListComp_P (F₀ := by k_asm) (by with_unfolding_all rfl) (by decide) (by rfl) (by decide) (by rfl) (by rfl) (by decide) ?_)))
theorem count_call {w : World} {mean : ExcName → Option Value} {mg mb : Str → Option Value} {dp un : Nat} {gd : Option (List Code)} {cn : Str} {cs : Scope} {a : Addr} {ccd : Value} {cl : List (Str × Addr)} {outer : List Env} {A₀ : Around} {base h₀ : Heap} {L : Addr} {m : Str → Option Value} {news : Ledger} {s : Shared}
    {Q E : Value → Shared → Prop} {l : Addr} {xs : List Sp}
    (B : Below A₀ base outer h₀) (F : Fr h₀ L s.heap m) (X : (hd.heap_39 w.params).In h₀) (N : News h₀ L s.heap news) (T : Top hd.view_39 (looseW hd.view_39 []) mean mg mb h₀) (hk : cs.kind = .function)
    (hx : SpAt news l xs) (hg : Good xs) (hroom : dp + 5 < recursionLimit)
    (ret : ∀ tl t h' tk', Fr h₀ L h' m → News h₀ L h' (tl ++ news) → Q (.int (spanCount xs) t) { s with heap := h', toks := tk' }) :
    wpAny (model PySem.Challenge.rw_sa0562_01.row.prog w) (ktrTop dp un gd cn cs L a ccd cl outer) (call (.ref (ktn_at% "span_count")) [.ref l]) Q E s := by
  obtain ⟨vs, n, hm, hv⟩ := hx
  refine wpAny_call ?_
  k_dflt ktr_enter
  k_steps
  have hlv : vs.length ≤ 100000 := by have := hv.length; have := hg.len; omega
  rename News _ _ _ _ => N1
  rename Fr _ _ _ _ => F1
  refine LCp.SrcLP.ledger rfl F1 N1 hm (size_le hlv) (fun g2 => ?_)
  refine compP_ind (fun r ys nw => nw = news ∧ ∃ rest ns, SpAll news r rest ∧ IntsAre ys ns ∧ ns ++ rest.map (fun p : Sp => p.2 - p.1) = xs.map fun p => p.2 - p.1) ?_ ?_ vs 0 [] news src_get ⟨rfl, xs, [], hv, .nil, rfl⟩
  · rintro v r ys nw ⟨rfl, rest, ns, hr, hi, he⟩
    obtain ⟨t, x, y, u1, u2, n2, r', rfl, rfl, ht, hr'⟩ := hr.uncons
    refine ⟨t, x, y, u1, u2, n2, rfl, ht, ?_⟩
    intro I oI C oC D m₂ h tk2 E' hC hx hy F2 N2 off ne
    k_steps
    exact comp_same F2 N2 off (src_mem hm) ⟨rfl, r', ns ++ [y - x], hr', hi.append (.cons _ _ .nil), by rw [← he, List.append_assoc]; rfl⟩
  · rintro ys nw ⟨rfl, rest, ns, hr, hi, he⟩
    have e := hr.unnil
    subst e
    rw [List.map_nil, List.append_nil] at he
    subst he
    k_steps
    rename_i D _ _ _ _ _ _ _ _ _ _ kF kN _ _
    exact ret [(D, _)] _ _ _ kF kN
theorem countOf_call {w : World} {mean : ExcName → Option Value} {mg mb : Str → Option Value} {dp un : Nat} {gd : Option (List Code)} {cn : Str} {cs : Scope} {a : Addr} {ccd : Value} {cl : List (Str × Addr)} {outer : List Env} {A₀ : Around} {base h₀ : Heap} {L : Addr} {m : Str → Option Value} {news : Ledger} {s : Shared}
    {Q E : Value → Shared → Prop} {l : Addr} {xs : List Sp}
    (B : Below A₀ base outer h₀) (F : Fr h₀ L s.heap m) (X : (hd.heap_39 w.params).In h₀) (N : News h₀ L s.heap news) (T : Top hd.view_39 (looseW hd.view_39 []) mean mg mb h₀) (hk : cs.kind = .function)
    (hx : SpAt news l xs) (hg : xs.length ≤ 50) (hroom : dp + 5 < recursionLimit)
    (ret : ∀ tl t h' tk', Fr h₀ L h' m → News h₀ L h' (tl ++ news) → Q (.int (countOf xs) t) { s with heap := h', toks := tk' }) :
    wpAny (model PySem.Challenge.rw_sa0562_01.row.prog w) (ktrTop dp un gd cn cs L a ccd cl outer) (call (.ref (ktn_at% "count_of")) [.ref l]) Q E s := by
  obtain ⟨vs, n, hm, hv⟩ := hx
  refine wpAny_call ?_
  k_dflt ktr_enter
  k_steps
  have hlv : vs.length ≤ 100000 := by have := hv.length; omega
  rename News _ _ _ _ => N1
  rename Fr _ _ _ _ => F1
  refine LCp.SrcLP.ledger rfl F1 N1 hm (size_le hlv) (fun g2 => ?_)
  refine compP_ind (fun r ys nw => nw = news ∧ ∃ rest ns, SpAll news r rest ∧ IntsAre ys ns ∧ ns ++ rest.map (fun p : Sp => p.2 - p.1 + 1) = xs.map fun p => p.2 - p.1 + 1) ?_ ?_ vs 0 [] news src_get ⟨rfl, xs, [], hv, .nil, rfl⟩
  · rintro v r ys nw ⟨rfl, rest, ns, hr, hi, he⟩
    obtain ⟨t, x, y, u1, u2, n2, r', rfl, rfl, ht, hr'⟩ := hr.uncons
    refine ⟨t, x, y, u1, u2, n2, rfl, ht, ?_⟩
    intro I oI C oC D m₂ h tk2 E' hC hx hy F2 N2 off ne
    k_steps
    exact comp_same F2 N2 off (src_mem hm) ⟨rfl, r', ns ++ [y - x + 1], hr', hi.append (.cons _ _ .nil), by rw [← he, List.append_assoc]; rfl⟩
  · rintro ys nw ⟨rfl, rest, ns, hr, hi, he⟩
    have e := hr.unnil
    subst e
    rw [List.map_nil, List.append_nil] at he
    subst he
    k_steps
    rename_i D _ _ _ _ _ _ _ _ _ _ kF kN _ _
    exact ret [(D, _)] _ _ _ kF kN
end Mine
end

section
namespace Mine
theorem start_Pr : True := by
  w_top off
  trivial
end Mine
local macro_rules | `(tactic| walk_at "zz0") => `(tactic| fail)
local macro_rules | `(tactic| walk_at "zz1") => `(tactic| fail)
local macro_rules | `(tactic| walk_at "zz2") => `(tactic| fail)
local macro_rules | `(tactic| walk_at "zz3") => `(tactic| fail)
local macro_rules | `(tactic| walk_at "zz4") => `(tactic| fail)
namespace Mine
local macro_rules | `(tactic| k_mem) => `(tactic| assumption)
local macro_rules | `(tactic| walk_at "call type:list") => `(tactic| (k_here; (with_reducible show wpAny _ _ (call (Value.type _) [Value.ref _]) _ _ _); k_dflt (refine' list_copy_at ?F ?N ?hl ?z ?_; (case F => k_asm); (case N => k_asm); (case hl => k_mem); (case z => omega)); intro D' c' h' F' N' l1; (try k_sweep)))
local macro_rules | `(tactic| walk_at "binaryOp Add ref ref") => `(tactic| (k_here; (with_reducible show wpAny _ _ (binaryOp _ (Value.ref _) (Value.ref _)) _ _ _); k_dflt (refine' add_lists_at ?F ?N ?a ?b ?z ?_; (case F => k_asm); (case N => k_asm); (case a => k_mem); (case b => k_mem); (case z => (simp only [List.length_cons, List.length_nil]; omega))); intro D' h' F' N' l1; (try k_lt l1); (try k_sweep)))
local macro_rules | `(tactic| k_all) => `(tactic| assumption)
local macro_rules | `(tactic| walk_at "exec For Tuple Name cons nil") => `(tactic| (k_here; (rename Fr _ _ _ _ => lF'); (with_unfolding_all refine' For_turns lF' ?_; k_whole)))
local macro_rules | `(tactic| ktr_rel) => `(tactic| first | assumption | (refine' SpAt.right ?ktrA; (case ktrA => ktr_rel)) | (refine' SpAt.tail ?ktrA; (case ktrA => ktr_rel)))
local macro_rules | `(tactic| walk_at "eval ListComp") => `(tactic| (k_here; lct_look; k_dflt (refine LCt.ListComp_T (F₀ := by k_asm) (by with_unfolding_all rfl) (by decide) (by rfl) (by decide) (by rfl) ?_)))
theorem prune_call {w : World} {mean : ExcName → Option Value} {mg mb : Str → Option Value} {dp un : Nat} {gd : Option (List Code)} {cn : Str} {cs : Scope} {a : Addr} {ccd : Value} {cl : List (Str × Addr)} {outer : List Env} {A₀ : Around} {base h₀ : Heap} {L : Addr} {m : Str → Option Value} {news : Ledger} {s : Shared}
    {Q E : Value → Shared → Prop} {l : Addr} {xs : List Sp} {low : Int} {t1 : Tok}
    (B : Below A₀ base outer h₀) (F : Fr h₀ L s.heap m) (X : (hd.heap_39 w.params).In h₀) (N : News h₀ L s.heap news) (T : Top hd.view_39 (looseW hd.view_39 []) mean mg mb h₀) (hk : cs.kind = .function)
    (hx : SpAt news l xs) (hlen : xs.length ≤ 50) (hroom : dp + 5 < recursionLimit)
    (ret : ∀ r tl h' tk', Fr h₀ L h' m → News h₀ L h' (tl ++ news) → SpAt (tl ++ news) r (prune xs low) → Q (.ref r) { s with heap := h', toks := tk' }) :
    wpAny (model PySem.Challenge.rw_sa0562_01.row.prog w) (ktrTop dp un gd cn cs L a ccd cl outer) (call (.ref (ktn_at% "prune")) [.ref l, .int low t1]) Q E s := by
  obtain ⟨vs, n, hm, hv⟩ := hx
  have hlv : vs.length ≤ 100000 := by have := hv.length; omega
  refine wpAny_call ?_
  k_dflt (refine' code_defC ?k1 ?k2 ?k3 ?k4 ?k5 ?kA ?kF ?kK ?k6 ?k7 ?k8 ?k9 ?kB ?kD ?_ ?c2 ?c3 ?c4; (case kA => exact rfl); (case kF => exact rfl); (case kK => assumption); (case k1 => k_asm); (case k2 => k_asm); (case k3 => k_asm); (case k4 => k_asm); (case k5 => k_asm); (case k6 => k_is); (case k7 => k_is); (case k8 => ktr_room); (case k9 => exact BindsTo.of_eq rfl); (case kB => exact rfl); (case kD => decide +kernel); (case c2 => exact rfl); (case c3 => exact rfl); (case c4 => exact rfl); k_whole)
  intro g' L' h' tk' cells' FG' F' N' Y' B' X' T' l1
  k_cells Y'
  simp only [List.cons_append, List.nil_append] at N'
  (try dsimp only)
  k_steps
  rename_i o d1
  have hd : o.data = .cell (some (.int low t1)) := d1
  clear d1
  refine LCt.CompSrcT.ledger rfl F' N' (List.Mem.tail _ hm) (size_le hlv) (fun g2 => ?_)
  refine compT_ind (fun r ys nw => ∃ tl rest acc, nw = tl ++ (L' + 1, o) :: news ∧ SpAll news r rest ∧ SpAll nw ys acc ∧ acc ++ prune rest low = prune xs low) ?_ ?_ vs 0 [] ((L' + 1, o) :: news) src_get ⟨[], xs, [], rfl, hv, .nil, rfl⟩
  · rintro v r ys nw I oI C oC D m₂ h tk2 E' ⟨tl, rest, acc, rfl, hr, ha, he⟩ hC hx F2 N2 off ne
    obtain ⟨t, x, y, u1, u2, n2, r', rfl, rfl, ht, hr'⟩ := hr.uncons
    have hsub : ∀ p ∈ news, p ∈ tl ++ (L' + 1, o) :: news := fun p hp => List.mem_append.mpr (.inr (.tail _ hp))
    have ht2 : (t, tupO x y u1 u2 n2) ∈ (I, oI) :: (C, oC) :: (D, LCg.lst ys) :: (tl ++ (L' + 1, o) :: news) := .tail _ (.tail _ (.tail _ (hsub _ ht)))
    have hc2 : (L' + 1, o) ∈ (I, oI) :: (C, oC) :: (D, LCg.lst ys) :: (tl ++ (L' + 1, o) :: news) := .tail _ (.tail _ (.tail _ (List.mem_append.mpr (.inr (.head _)))))
    k_steps
    · rename_i g1 _ _ D1 _ F3 N3 l1a
      rw [mx_eq] at N3
      rw [prune_yes g1] at he
      refine comp_one F3 N3 off ⟨Nat.ne_of_gt l1a.1, Nat.ne_of_gt l1a.2.1, Nat.ne_of_gt l1a.2.2.1⟩ (src_mem (n := n) (.tail _ (hsub _ hm))) ⟨(D1, _) :: tl, r', acc ++ [(max x low, y)], rfl, hr', ?_, ?_⟩
      · exact (ha.mono fun _ h => .tail _ h).append (SpAll.one (.head _))
      · rw [← he, List.append_assoc]
        rfl
    · rename_i g1
      rw [prune_no g1] at he
      exact comp_same F2 N2 off (src_mem (n := n) (hsub _ hm)) ⟨tl, r', acc, rfl, hr', ha, he⟩
  · rintro ys nw ⟨tl, rest, acc, rfl, hr, ha, he⟩
    have e := hr.unnil
    subst e
    k_steps
    have he' : acc = prune xs low := by rw [← he]; exact (List.append_nil _).symm
    subst he'
    rename_i D _ _ _ _ _ kF kN _ _
    have eN : (D, LCg.lst ys) :: (tl ++ (L' + 1, o) :: news) = ((D, LCg.lst ys) :: (tl ++ [(L' + 1, o)])) ++ news := by simp
    rw [eN] at kN
    refine ret D _ _ _ kF kN ⟨ys, ys.length, List.mem_append.mpr (.inl (.head _)), ?_⟩
    rw [← eN]
    exact ha.mono fun _ h => .tail _ h
end Mine
end

section
namespace Mine
theorem start_Rn : True := by
  w_top off
  trivial
end Mine
local macro_rules | `(tactic| walk_at "zz0") => `(tactic| fail)
local macro_rules | `(tactic| walk_at "zz1") => `(tactic| fail)
local macro_rules | `(tactic| walk_at "zz2") => `(tactic| fail)
local macro_rules | `(tactic| walk_at "zz3") => `(tactic| fail)
local macro_rules | `(tactic| walk_at "zz4") => `(tactic| fail)
local macro_rules | `(tactic| walk_at "zz5") => `(tactic| fail)
namespace Mine
local macro_rules | `(tactic| k_mem) => `(tactic| assumption)
local macro_rules | `(tactic| walk_at "call type:list") => `(tactic| (k_here; (with_reducible show wpAny _ _ (call (Value.type _) [Value.ref _]) _ _ _); k_dflt (refine' list_copy_at ?F ?N ?hl ?z ?_; (case F => k_asm); (case N => k_asm); (case hl => k_mem); (case z => omega)); intro D' c' h' F' N' l1; (try k_sweep)))
local macro_rules | `(tactic| walk_at "binaryOp Add ref ref") => `(tactic| (k_here; (with_reducible show wpAny _ _ (binaryOp _ (Value.ref _) (Value.ref _)) _ _ _); k_dflt (refine' add_lists_at ?F ?N ?a ?b ?z ?_; (case F => k_asm); (case N => k_asm); (case a => k_mem); (case b => k_mem); (case z => (simp only [List.length_cons, List.length_nil]; omega))); intro D' h' F' N' l1; (try k_lt l1); (try k_sweep)))
local macro_rules | `(tactic| k_all) => `(tactic| assumption)
local macro_rules | `(tactic| walk_at "exec For Tuple Name cons nil") => `(tactic| (k_here; (rename Fr _ _ _ _ => lF'); (with_unfolding_all refine' For_turns lF' ?_; k_whole)))
local macro_rules | `(tactic| ktr_rel) => `(tactic| first | assumption | (refine' SpAt.right ?ktrA; (case ktrA => ktr_rel)) | (refine' SpAt.tail ?ktrA; (case ktrA => ktr_rel)))
local macro_rules | `(tactic| walk_at "exec For Name Name cons nil") => `(tactic| (k_here; (rename Fr _ _ _ _ => lF'); (with_unfolding_all refine' For_turns lF' ?_; k_whole)))
structure RngSt where
  accv : List Value
  k : Nat
  acc : List Sp
  tl : Ledger
  rest : List Sp
  lo : Int
  hi : Int
  t : Tok
  u : Tok
  put : Bool
theorem rng_call {w : World} {mean : ExcName → Option Value} {mg mb : Str → Option Value} {dp un : Nat} {gd : Option (List Code)} {cn : Str} {cs : Scope} {a : Addr} {ccd : Value} {cl : List (Str × Addr)} {outer : List Env} {A₀ : Around} {base h₀ : Heap} {L : Addr} {m : Str → Option Value} {news : Ledger} {s : Shared}
    {Q E : Value → Shared → Prop} {l : Addr} {xs : List Sp} {low high : Int} {t1 t2 : Tok}
    (B : Below A₀ base outer h₀) (F : Fr h₀ L s.heap m) (X : (hd.heap_39 w.params).In h₀) (N : News h₀ L s.heap news) (T : Top hd.view_39 (looseW hd.view_39 []) mean mg mb h₀) (hk : cs.kind = .function)
    (hx : SpAt news l xs) (hlen : xs.length ≤ 50) (hroom : dp + 5 < recursionLimit)
    (ret : ∀ r tl h' tk', Fr h₀ L h' m → News h₀ L h' (tl ++ news) → (∀ p ∈ tl, ∀ q ∈ news, q.1 < p.1) → SpAt (tl ++ news) r (addRange xs low high) → Q (.ref r) { s with heap := h', toks := tk' }) :
    wpAny (model PySem.Challenge.rw_sa0562_01.row.prog w) (ktrTop dp un gd cn cs L a ccd cl outer) (call (.ref (ktn_at% "add_range")) [.ref l, .int low t1, .int high t2]) Q E s := by
  obtain ⟨vs, n, hm, hv⟩ := hx
  have hlv : vs.length ≤ 50 := by have := hv.length; omega
  refine wpAny_call ?_
  k_dflt ktr_enter
  k_steps
  rename_i f _ l1 D _ _ _ _ _ F1 N1
  refine list_loop (ax := l) (lo := W.listOf vs.toArray n) (vs := vs) (n := n) [Str.ofString "one"] (fun c : RngSt => (f, W.listOf c.accv.toArray c.k) :: (c.tl ++ news)) (fun c => [(Str.ofString "ranges", .ref l), (Str.ofString "found", .ref f), (Str.ofString "low", .int c.lo c.t), (Str.ofString "high", .int c.hi c.u), (Str.ofString "is_in", .bool c.put)])
    (fun r c => (∀ p ∈ c.tl, f < p.1) ∧ SpAll (c.tl ++ news) c.accv c.acc ∧ SpAll news r c.rest ∧ c.acc ++ rngGo c.rest c.lo c.hi c.put = rngGo xs low high false ∧ c.acc.length + c.rest.length + (if c.put then 0 else 1) ≤ xs.length + 1) ⟨[], 0, [], [], xs, low, high, t1, t2, false⟩ rfl F1 N1 (fun _ h => .tail _ h) rfl rfl ?_ ?_ ?_ ?_ ?_
  · exact fun r c _ => .tail _ (List.mem_append.mpr (.inr hm))
  · kst_all
  · exact ⟨(fun _ h => nomatch h), SpAll.nil, hv, rfl, by show 0 + xs.length + 1 ≤ _; omega⟩
  · rintro I o v r c u h tk2 ho hI ⟨hf, ha, hr, he, hl⟩ F2 N2
    obtain ⟨t, x, y, u1, u2, n2, r', rfl, e2, ht, hr'⟩ := hr.uncons
    obtain ⟨accv, k, acc, tl, rest, lo, hi, tt, tu, put⟩ := c
    dsimp only at e2 hf ha hr he hl F2 N2 hI ⊢
    subst e2
    have ht2 : (t, tupO x y u1 u2 n2) ∈ (I, o) :: (f, W.listOf accv.toArray k) :: (tl ++ news) := .tail _ (.tail _ (List.mem_append.mpr (.inr ht)))
    have hoff : ∀ p ∈ tl ++ news, p.1 ≠ f := fun p hp => (List.mem_append.mp hp).elim (fun h => Nat.ne_of_gt (hf p h)) fun h => Nat.ne_of_lt (l1 p h)
    have hIf : I ≠ f := (hI _ (.head _)).symm
    have hlen9 : accv.length ≤ 100 := by have := ha.length; omega
    k_steps
    all_goals (simp only [mn_eq, mx_eq, List.push_toArray] at *)
    · rename_i g1 _ _ F3 N3
      rw [rngGo_above g1] at he
      refine' turn_next ⟨accv ++ [.ref t], k + 1, acc ++ [(x, y)], tl, r', lo, hi, tt, tu, put⟩ F3 N3 ?q1a ?q1b ?q1c ?q1d ⟨hf, ?q1e2, hr', ?q1e3, ?q1e4⟩
      case q1a => k_mem
      case q1b => exact List.forall_mem_cons.mpr ⟨⟨by k_mem, hIf.symm⟩, fun p hp => ⟨by kst_mem, hI p (.tail _ hp)⟩⟩
      case q1c => kst_all
      case q1d => exact same_put rfl (same_base rfl)
      case q1e2 => exact ha.append (SpAll.one (List.mem_append.mpr (.inr ht)))
      case q1e3 => rw [← he, List.append_assoc]; rfl
      case q1e4 => simp only [List.length_append, List.length_cons, List.length_nil] at hl ⊢; omega
    · rename_i g1 _ g2 _ g3 _ F3 N3
      subst g3
      rw [rngGo_put g1 g2] at he
      refine' turn_next ⟨accv ++ [.ref t], k + 1, acc ++ [(x, y)], tl, r', lo, hi, tt, tu, true⟩ F3 N3 ?q2a ?q2b ?q2c ?q2d ⟨hf, ?q2e2, hr', ?q2e3, ?q2e4⟩
      case q2a => k_mem
      case q2b => exact List.forall_mem_cons.mpr ⟨⟨by k_mem, hIf.symm⟩, fun p hp => ⟨by kst_mem, hI p (.tail _ hp)⟩⟩
      case q2c => kst_all
      case q2d => exact same_put rfl (same_base rfl)
      case q2e2 => exact ha.append (SpAll.one (List.mem_append.mpr (.inr ht)))
      case q2e3 => rw [← he, List.append_assoc]; rfl
      case q2e4 => simp only [List.length_append, List.length_cons, List.length_nil, if_true] at hl ⊢; omega
    · rename_i g1 _ g2 _ g3 D1 _ l1a _ _ _ _ F3 N3
      subst g3
      rw [rngGo_new g1 g2] at he
      refine' turn_next ⟨accv ++ [.ref D1] ++ [.ref t], k + 1 + 1, acc ++ [(lo, hi)] ++ [(x, y)], (D1, _) :: tl, r', lo, hi, tt, tu, true⟩ F3 N3 ?q3a ?q3b ?q3c ?q3d ⟨?q3e1, ?q3e2, hr', ?q3e3, ?q3e4⟩
      case q3a => k_mem
      case q3b => exact List.forall_mem_cons.mpr ⟨⟨by k_mem, hIf.symm⟩, List.forall_mem_cons.mpr ⟨⟨by k_mem, Nat.ne_of_gt l1a.1⟩, fun p hp => ⟨by kst_mem, hI p (.tail _ hp)⟩⟩⟩
      case q3c => kst_all
      case q3d => exact same_put rfl (same_put rfl (same_base rfl))
      case q3e1 => exact List.forall_mem_cons.mpr ⟨l1a.2.1, hf⟩
      case q3e2 => exact ((ha.mono fun _ h => .tail _ h).append (SpAll.one (.head _))).append (SpAll.one (.tail _ (List.mem_append.mpr (.inr ht))))
      case q3e3 => rw [← he, List.append_assoc, List.append_assoc]; rfl
      case q3e4 => simp only [List.length_append, List.length_cons, List.length_nil, if_true, Bool.false_eq_true, if_false] at hl ⊢; omega
    · rename_i g1 _ g2 _ _ _ _ _ D1 _ l1a _ _ _ F3 N3
      rw [rngGo_join g1 g2] at he
      refine' turn_next ⟨accv, k, acc, tl, r', min lo x, max hi y, _, _, put⟩ F3 N3 ?q4a ?q4b ?q4c ?q4d ⟨hf, ha, hr', he, ?q4e4⟩
      case q4a => k_mem
      case q4b => exact fun p hp => ⟨.tail _ (.tail _ hp), hI p hp⟩
      case q4c => kst_all
      case q4d => exact same_put rfl (same_put rfl (same_put rfl (same_base rfl)))
      case q4e4 => simp only [List.length_cons] at hl ⊢; omega
  · rintro c u h tk2 ⟨hf, ha, hr, he, hl⟩ F2 N2
    obtain ⟨accv, k, acc, tl, rest, lo, hi, tt, tu, put⟩ := c
    dsimp only at hf ha hr he hl F2 N2 ⊢
    have e := hr.unnil
    subst e
    have hlen9 : accv.length ≤ 100 := by have := ha.length; omega
    k_steps
    · rename_i g3 kF kN _ _
      subst g3
      have e2 : addRange xs low high = acc := by rw [addRange, ← he]; exact List.append_nil _
      refine ret f ((f, W.listOf accv.toArray k) :: tl) _ _ kF kN (List.forall_mem_cons.mpr ⟨l1, fun p hp q hq => Nat.lt_trans (l1 q hq) (hf p hp)⟩) ⟨accv, k, .head _, ?_⟩
      rw [e2]
      exact ha.mono fun _ h => .tail _ h
    · rename_i g3 D1 _ l1a D2 _ l1b D3 _ _ _ l1c kF kN _ _
      subst g3
      have e2 : addRange xs low high = acc ++ [(lo, hi)] := by rw [addRange, ← he]; rfl
      refine ret D3 ([(D3, _), (D2, _), (D1, _), (f, W.listOf accv.toArray k)] ++ tl) _ _ kF kN ?_ ⟨accv ++ [.ref D1], _, .head _, ?_⟩
      · have h3 : f < D3 := l1c.2.2.1
        have h2 : f < D2 := l1b.2.1
        have h1 : f < D1 := l1a.1
        exact List.forall_mem_cons.mpr ⟨fun q hq => Nat.lt_trans (l1 q hq) h3, List.forall_mem_cons.mpr ⟨fun q hq => Nat.lt_trans (l1 q hq) h2, List.forall_mem_cons.mpr ⟨fun q hq => Nat.lt_trans (l1 q hq) h1, List.forall_mem_cons.mpr ⟨l1, fun p hp q hq => Nat.lt_trans (l1 q hq) (hf p hp)⟩⟩⟩⟩
      · rw [e2]
        exact (ha.mono fun _ h => .tail _ (.tail _ (.tail _ (.tail _ h)))).append (SpAll.one (.tail _ (.tail _ (.head _))))
end Mine
end

section
namespace Mine
theorem start_Lr : True := by
  w_top off
  trivial
end Mine
local macro_rules | `(tactic| walk_at "zz0") => `(tactic| fail)
local macro_rules | `(tactic| walk_at "zz1") => `(tactic| fail)
local macro_rules | `(tactic| walk_at "zz2") => `(tactic| fail)
local macro_rules | `(tactic| walk_at "zz3") => `(tactic| fail)
local macro_rules | `(tactic| walk_at "zz4") => `(tactic| fail)
local macro_rules | `(tactic| walk_at "zz5") => `(tactic| fail)
local macro_rules | `(tactic| walk_at "zz6") => `(tactic| fail)
namespace Mine
local macro_rules | `(tactic| k_mem) => `(tactic| assumption)
local macro_rules | `(tactic| walk_at "call type:list") => `(tactic| (k_here; (with_reducible show wpAny _ _ (call (Value.type _) [Value.ref _]) _ _ _); k_dflt (refine' list_copy_at ?F ?N ?hl ?z ?_; (case F => k_asm); (case N => k_asm); (case hl => k_mem); (case z => omega)); intro D' c' h' F' N' l1; (try k_sweep)))
local macro_rules | `(tactic| walk_at "binaryOp Add ref ref") => `(tactic| (k_here; (with_reducible show wpAny _ _ (binaryOp _ (Value.ref _) (Value.ref _)) _ _ _); k_dflt (refine' add_lists_at ?F ?N ?a ?b ?z ?_; (case F => k_asm); (case N => k_asm); (case a => k_mem); (case b => k_mem); (case z => (simp only [List.length_cons, List.length_nil]; omega))); intro D' h' F' N' l1; (try k_lt l1); (try k_sweep)))
local macro_rules | `(tactic| k_all) => `(tactic| assumption)
local macro_rules | `(tactic| walk_at "exec For Tuple Name cons nil") => `(tactic| (k_here; (rename Fr _ _ _ _ => lF'); (with_unfolding_all refine' For_turns lF' ?_; k_whole)))
local macro_rules | `(tactic| ktr_rel) => `(tactic| first | assumption | (refine' SpAt.right ?ktrA; (case ktrA => ktr_rel)) | (refine' SpAt.tail ?ktrA; (case ktrA => ktr_rel)))
local macro_rules | `(tactic| walk_at "call ref") => `(tactic| (k_here; (with_reducible show wpAny _ _ (call (Value.ref (ktn_at% "add_range")) _) _ _ _); k_dflt (refine' rng_call ?k1 ?k2 ?k3 ?k4 ?k5 ?kK ?hx0 ?hl ?hr ?_; (case k1 => k_asm); (case k2 => k_asm); (case k3 => k_asm); (case k4 => k_asm); (case k5 => k_asm); (case kK => first | exact rfl | assumption); (case hx0 => ktr_rel); (case hl => first | assumption | omega); (case hr => ktr_room)); intro r9 tl9 h9 tk9 F9 N9 hl9 ho9; (try dsimp only); (try k_fold)))
structure LrSt where
  fo : Addr
  cur : List Sp
  tl : Ledger
  rest : List Sp
theorem ranges_call {w : World} {mean : ExcName → Option Value} {mg mb : Str → Option Value} {dp un : Nat} {gd : Option (List Code)} {cn : Str} {cs : Scope} {a : Addr} {ccd : Value} {cl : List (Str × Addr)} {outer : List Env} {A₀ : Around} {base h₀ : Heap} {L : Addr} {m : Str → Option Value} {news : Ledger} {s : Shared}
    {Q E : Value → Shared → Prop} {l2 : Addr} {ys : List Sp}
    (B : Below A₀ base outer h₀) (F : Fr h₀ L s.heap m) (X : (hd.heap_39 w.params).In h₀) (N : News h₀ L s.heap news) (T : Top hd.view_39 (looseW hd.view_39 []) mean mg mb h₀) (hk : cs.kind = .function)
    (hy : SpAt news l2 ys) (hg : ys.length ≤ 20) (hroom : dp + 10 < recursionLimit)
    (ret : ∀ r tl h' tk', Fr h₀ L h' m → News h₀ L h' (tl ++ news) → (∀ p ∈ tl, ∀ q ∈ news, q.1 < p.1) → SpAt (tl ++ news) r (lawRanges ys) → (lawRanges ys).length ≤ 20 → Q (.ref r) { s with heap := h', toks := tk' }) :
    wpAny (model PySem.Challenge.rw_sa0562_01.row.prog w) (ktrTop dp un gd cn cs L a ccd cl outer) (call (.ref (ktn_at% "_law_ranges")) [.ref l2]) Q E s := by
  obtain ⟨ws, n2, hm2, hw⟩ := hy
  refine wpAny_call ?_
  k_dflt ktr_enter
  k_steps
  rename Fr _ _ _ _ => F1
  rename News _ _ _ _ => N1
  rename_i f _ l1 _
  refine list_loop (ax := l2) (lo := W.listOf ws.toArray n2) (vs := ws) (n := n2) [Str.ofString "low", Str.ofString "high"] (fun c : LrSt => c.tl ++ news) (fun c => [(Str.ofString "some", .ref l2), (Str.ofString "found", .ref c.fo)])
    (fun r c => (∀ p ∈ c.tl, ∀ q ∈ news, q.1 < p.1) ∧ SpAt (c.tl ++ news) c.fo c.cur ∧ SpAll news r c.rest ∧ c.cur.length + c.rest.length ≤ 20 ∧ c.rest.foldl (fun f p => addRange f p.1 (p.2 - 1)) c.cur = lawRanges ys) ⟨f, [], [(f, W.listOf #[] 0)], ys⟩ rfl F1 N1 (fun _ h => h) rfl rfl ?_ ?_ ?_ ?_ ?_
  · exact fun r c _ => List.mem_append.mpr (.inr hm2)
  · kst_all
  · exact ⟨List.forall_mem_cons.mpr ⟨l1, fun _ h => nomatch h⟩, ⟨[], 0, .head _, SpAll.nil⟩, hw, by show 0 + ys.length ≤ 20; omega, rfl⟩
  · rintro I o v r c u h tk2 ho hI ⟨hf, ha, hr, hl, he⟩ F2 N2
    obtain ⟨t, x, y, u1, u2, n2, r', rfl, e2, ht, hr'⟩ := hr.uncons
    have hT : IsTup h t #[.int x u1, .int y u2] := News.isTup N2 (.tail _ (List.mem_append.mpr (.inr ht)))
    obtain ⟨fo, cur, tl, rest⟩ := c
    dsimp only at e2 hf ha hr hl he F2 N2 hI ⊢
    subst e2
    have hlen9 : cur.length ≤ 50 := by omega
    k_steps
    rename_i r9 tl9 _ _ hl9 ho9 _ F3 N3
    refine' turn_next ⟨r9, addRange cur x (y - 1), tl9 ++ tl, r'⟩ F3 N3 ?q1a (led_call hI hl9) ?q1c ?q1d ⟨fresh_call hf hl9, at_call ho ho9, hr', ?q1e, he⟩
    case q1a => exact List.mem_append.mpr (.inr (.head _))
    case q1c => kst_all
    case q1d => exact same_put rfl (same_put rfl (same_put rfl (same_base rfl)))
    case q1e =>
      have := rngGo_length cur x (y - 1) false
      simp only [addRange, List.length_cons, Bool.false_eq_true, if_false] at this hl ⊢
      omega
  · rintro c u h tk2 ⟨hf, ha, hr, hl, he⟩ F2 N2
    obtain ⟨fo, cur, tl, rest⟩ := c
    dsimp only at hf ha hr hl he F2 N2 ⊢
    have e := hr.unnil
    subst e
    k_steps
    rename_i kF kN _ _
    have he' : cur = lawRanges ys := he
    subst he'
    exact ret fo tl _ _ kF kN hf ha (by simpa using hl)
end Mine
end

section
namespace Mine
theorem start_Ar : True := by
  w_top off
  trivial
end Mine
local macro_rules | `(tactic| walk_at "zz0") => `(tactic| fail)
local macro_rules | `(tactic| walk_at "zz1") => `(tactic| fail)
local macro_rules | `(tactic| walk_at "zz2") => `(tactic| fail)
local macro_rules | `(tactic| walk_at "zz3") => `(tactic| fail)
local macro_rules | `(tactic| walk_at "zz4") => `(tactic| fail)
local macro_rules | `(tactic| walk_at "zz5") => `(tactic| fail)
namespace Mine
local macro_rules | `(tactic| k_mem) => `(tactic| assumption)
local macro_rules | `(tactic| walk_at "call type:list") => `(tactic| (k_here; (with_reducible show wpAny _ _ (call (Value.type _) [Value.ref _]) _ _ _); k_dflt (refine' list_copy_at ?F ?N ?hl ?z ?_; (case F => k_asm); (case N => k_asm); (case hl => k_mem); (case z => omega)); intro D' c' h' F' N' l1; (try k_sweep)))
local macro_rules | `(tactic| walk_at "binaryOp Add ref ref") => `(tactic| (k_here; (with_reducible show wpAny _ _ (binaryOp _ (Value.ref _) (Value.ref _)) _ _ _); k_dflt (refine' add_lists_at ?F ?N ?a ?b ?z ?_; (case F => k_asm); (case N => k_asm); (case a => k_mem); (case b => k_mem); (case z => (simp only [List.length_cons, List.length_nil]; omega))); intro D' h' F' N' l1; (try k_lt l1); (try k_sweep)))
local macro_rules | `(tactic| k_all) => `(tactic| assumption)
local macro_rules | `(tactic| walk_at "exec For Tuple Name cons nil") => `(tactic| (k_here; (rename Fr _ _ _ _ => lF'); (with_unfolding_all refine' For_turns lF' ?_; k_whole)))
local macro_rules | `(tactic| ktr_rel) => `(tactic| first | assumption | (refine' SpAt.right ?ktrA; (case ktrA => ktr_rel)) | (refine' SpAt.tail ?ktrA; (case ktrA => ktr_rel)))
local macro_rules | `(tactic| walk_at "exec For Tuple Call cons nil") => `(tactic| (k_here; (rename Fr _ _ _ _ => lF'); (with_unfolding_all refine' For_turns lF' ?_; k_whole)))
local macro_rules | `(tactic| walk_at "subscriptTail") => `(tactic| (k_here; (with_reducible show wpAny _ _ (subscriptTail _ (Expr.BinOp _ _ _ _) _ _) _ _ _); k_dflt (refine list_item_bin (N := by k_asm) (hm := by assumption) (hx := by assumption) (h0 := by omega) (h1 := by omega) ?_)))
local macro_rules | `(tactic| walk_at "subscriptTail") => `(tactic| (k_here; (try dsimp only); k_gentoks))
theorem right_call {w : World} {mean : ExcName → Option Value} {mg mb : Str → Option Value} {dp un : Nat} {gd : Option (List Code)} {cn : Str} {cs : Scope} {a : Addr} {ccd : Value} {cl : List (Str × Addr)} {outer : List Env} {A₀ : Around} {base h₀ : Heap} {L : Addr} {m : Str → Option Value} {news : Ledger} {s : Shared}
    {Q E : Value → Shared → Prop} {l : Addr} {xs : List Sp}
    (B : Below A₀ base outer h₀) (F : Fr h₀ L s.heap m) (X : (hd.heap_39 w.params).In h₀) (N : News h₀ L s.heap news) (T : Top hd.view_39 (looseW hd.view_39 []) mean mg mb h₀) (hk : cs.kind = .function)
    (hx : SpAt news l xs) (hlen : xs.length ≤ 50) (hroom : dp + 5 < recursionLimit)
    (ret : ∀ tl h' tk', Fr h₀ L h' m → News h₀ L h' (tl ++ news) → Q (.bool (areRight xs)) { s with heap := h', toks := tk' }) :
    wpAny (model PySem.Challenge.rw_sa0562_01.row.prog w) (ktrTop dp un gd cn cs L a ccd cl outer) (call (.ref (ktn_at% "are_right")) [.ref l]) Q E s := by
  obtain ⟨vs, n, hm, hv⟩ := hx
  have hlv : vs.length ≤ 100000 := by have := hv.length; omega
  refine wpAny_call ?_
  k_dflt ktr_enter
  k_steps
  rename_i _ F1 N1 _ _ _
  refine ktu_enum (lo := W.listOf vs.toArray n) (vs := vs) (xs := enumItems 0 vs) rfl F1 N1 hm rfl rfl rfl (fun I hI => ?_)
  refine enum_items [Str.ofString "at", Str.ofString "one"] [(Str.ofString "ranges", .ref l)]
    (fun i r => ∃ rest prev, SpAll news r rest ∧ rightGo prev rest = areRight xs ∧ r = vs.drop i ∧ (i = 0 → prev = none) ∧ (∀ j, i = j + 1 → ∃ tp a b w1 w2 n3, vs[j]? = some (.ref tp) ∧ (tp, tupO a b w1 w2 n3) ∈ news ∧ prev = some a)) hm hI ?_ ?_ vs 0 _ ⟨xs, none, hv, rfl, rfl, fun _ => rfl, fun j h => by omega⟩ ⟨by kst_all, fun _ _ _ => rfl⟩
  · rintro o1 o2 i v r u h tk2 T t0 ⟨rest, prev, hr, he, hd, h0, h1⟩ hT F2 N2
    obtain ⟨t, x, y, u1, u2, n2, r', rfl, rfl, ht, hr'⟩ := hr.uncons
    have ht2 : (t, tupO x y u1 u2 n2) ∈ (I + 1, o1) :: (I, o2) :: news := .tail _ (.tail _ ht)
    have hm2 : (l, W.listOf vs.toArray n) ∈ (I + 1, o1) :: (I, o2) :: news := .tail _ (.tail _ hm)
    have hvi : vs[i]? = some (.ref t) := by rw [← List.head?_drop, ← hd]; rfl
    have hil : i < vs.length := (List.getElem?_eq_some_iff.mp hvi).1
    have hd' : r = vs.drop (i + 1) := by have := congrArg List.tail hd; simpa using this
    cases i with
    | zero =>
      have hp := h0 rfl
      subst hp
      rw [rightGo_none] at he
      dsimp only at he
      k_steps
      · rename_i g1 _ g2
        rename Fr _ _ _ _ => F3
        rename News _ _ _ _ => N3
        refine enum_next F3 N3 (by kst_all) (same_put rfl (same_put rfl (same_base rfl))) ⟨r', some x, hr', ?_, hd', fun h => (nomatch h), fun j h => ?_⟩
        · rw [← he, decide_eq_true g1, decide_eq_true g2]
          rfl
        · obtain rfl : j = 0 := by omega
          exact ⟨t, x, y, u1, u2, n2, hvi, ht, rfl⟩
      · rename_i g1 _ g2
        have e : areRight xs = false := by rw [← he, decide_eq_false g2, Bool.and_false, Bool.false_and]
        dsimp only [EnumPost]
        k_steps
        rename_i kF kN _ _
        rw [e] at ret
        exact ret [_, _] _ _ kF kN
      · rename_i g1
        have e : areRight xs = false := by rw [← he, decide_eq_false g1, Bool.false_and, Bool.false_and]
        dsimp only [EnumPost]
        k_steps
        rename_i kF kN _ _
        rw [e] at ret
        exact ret [_, _] _ _ kF kN
    | succ j =>
      obtain ⟨tp, c, d, w1, w2, n3, hj, htp, rfl⟩ := h1 j rfl
      have htp2 : (tp, tupO c d w1 w2 n3) ∈ (I + 1, o1) :: (I, o2) :: news := .tail _ (.tail _ htp)
      obtain ⟨z, hz⟩ : ∃ z : Int, z = ((j + 1 : Nat) : Int) := ⟨_, rfl⟩
      rw [← hz] at hT
      have hj2 : vs[(z - 1).toNat]? = some (.ref tp) := by rw [show (z - 1).toNat = j by omega]; exact hj
      rw [rightGo_some] at he
      dsimp only at he
      k_steps
      · rename_i g1 _ g2 _ _ _ g3
        have e : areRight xs = false := by rw [← he, decide_eq_false (show ¬ y < c - 1 by omega), Bool.and_false, Bool.false_and]
        dsimp only [EnumPost]
        k_steps
        rename_i kF kN _ _
        rw [e] at ret
        exact ret [_, _] _ _ kF kN
      · rename_i g1 _ g2 _ _ _ g3
        rename Fr _ _ _ _ => F3
        rename News _ _ _ _ => N3
        refine enum_next F3 N3 (by kst_all) (same_put rfl (same_put rfl (same_base rfl))) ⟨r', some x, hr', ?_, hd', fun h => (nomatch h), fun j2 h => ?_⟩
        · rw [← he, decide_eq_true g1, decide_eq_true g2, decide_eq_true (show y < c - 1 by omega)]
          rfl
        · obtain rfl : j2 = j + 1 := by omega
          exact ⟨t, x, y, u1, u2, n2, hvi, ht, rfl⟩
      · rename_i g1 _ g2
        have e : areRight xs = false := by rw [← he, decide_eq_false g2, Bool.and_false, Bool.false_and, Bool.false_and]
        dsimp only [EnumPost]
        k_steps
        rename_i kF kN _ _
        rw [e] at ret
        exact ret [_, _] _ _ kF kN
      · rename_i g1
        have e : areRight xs = false := by rw [← he, decide_eq_false g1, Bool.false_and, Bool.false_and, Bool.false_and]
        dsimp only [EnumPost]
        k_steps
        rename_i kF kN _ _
        rw [e] at ret
        exact ret [_, _] _ _ kF kN
  · rintro i u h tk2 ⟨rest, prev, hr, he, hd, h0, h1⟩ F2 N2
    have e := hr.unnil
    subst e
    k_steps
    rename_i kF kN _ _
    have e : areRight xs = true := by rw [← he]; cases prev <;> rfl
    rw [e] at ret
    exact ret [] _ _ kF kN
end Mine
end

section
namespace Mine
theorem start_Dr : True := by
  w_top off
  trivial
end Mine
local macro_rules | `(tactic| walk_at "zz0") => `(tactic| fail)
local macro_rules | `(tactic| walk_at "zz1") => `(tactic| fail)
local macro_rules | `(tactic| walk_at "zz2") => `(tactic| fail)
local macro_rules | `(tactic| walk_at "zz3") => `(tactic| fail)
local macro_rules | `(tactic| walk_at "zz4") => `(tactic| fail)
local macro_rules | `(tactic| walk_at "zz5") => `(tactic| fail)
local macro_rules | `(tactic| walk_at "zz6") => `(tactic| fail)
local macro_rules | `(tactic| walk_at "zz7") => `(tactic| fail)
namespace Mine
local macro_rules | `(tactic| k_mem) => `(tactic| assumption)
local macro_rules | `(tactic| walk_at "call type:list") => `(tactic| (k_here; (with_reducible show wpAny _ _ (call (Value.type _) [Value.ref _]) _ _ _); k_dflt (refine' list_copy_at ?F ?N ?hl ?z ?_; (case F => k_asm); (case N => k_asm); (case hl => k_mem); (case z => omega)); intro D' c' h' F' N' l1; (try k_sweep)))
local macro_rules | `(tactic| walk_at "binaryOp Add ref ref") => `(tactic| (k_here; (with_reducible show wpAny _ _ (binaryOp _ (Value.ref _) (Value.ref _)) _ _ _); k_dflt (refine' add_lists_at ?F ?N ?a ?b ?z ?_; (case F => k_asm); (case N => k_asm); (case a => k_mem); (case b => k_mem); (case z => (simp only [List.length_cons, List.length_nil]; omega))); intro D' h' F' N' l1; (try k_lt l1); (try k_sweep)))
local macro_rules | `(tactic| k_all) => `(tactic| assumption)
local macro_rules | `(tactic| walk_at "exec For Tuple Name cons nil") => `(tactic| (k_here; (rename Fr _ _ _ _ => lF'); (with_unfolding_all refine' For_turns lF' ?_; k_whole)))
local macro_rules | `(tactic| ktr_rel) => `(tactic| first | assumption | (refine' SpAt.right ?ktrA; (case ktrA => ktr_rel)) | (refine' SpAt.tail ?ktrA; (case ktrA => ktr_rel)))
/-- the pool: the list of the script's cells, the spot -/
abbrev poolO (C : Addr) (spot : Int) (tp : Tok) (n : Nat) : Obj := W.listOf [Value.ref C, Value.int spot tp].toArray n
section
variable {prog : Program} {w : World} {A : Around} {E : Value → Shared → Prop} {s : Shared} {h₀ : Heap} {L : Addr} {news : Ledger} {Q : Value → Shared → Prop}
theorem len_at {l : Addr} {vs : List Value} {ns : List Int} {n : Nat} (N : News h₀ L s.heap news) (hm : (l, W.listOf vs.toArray n) ∈ news) (hi : IntsAre vs ns) (hsz : ns.length ≤ 100000) (h : ∀ t tk, Q (.int (ns.length : Int) t) { s with toks := tk }) :
    wpAny (model prog w) A (call (.builtin "len") [.ref l]) Q E s := by
  have hl : s.heap.IsList l vs.toArray := ⟨_, (N _ hm).1, rfl, n, rfl⟩
  have e : vs.toArray.size = ns.length := by rw [List.size_toArray, hi.length]
  refine len_list hl (by rw [e]; omega) ?_
  rw [e]
  exact h _ _
theorem ints_item_at {value : PySem.Expr} {x : Str} {pos : Pos} {l : Addr} {vs : List Value} {ns : List Int} {n : Nat} {k : Int} {u : Tok} (N : News h₀ L s.heap news) (hm : (l, W.listOf vs.toArray n) ∈ news) (hi : IntsAre vs ns) (h0 : 0 ≤ k) (h1 : k < (ns.length : Int)) (hf : k < 2 ^ 63)
    (h : ∀ c t, Q (.int c t) s) : wpAny (model prog w) A (subscriptTail value (.Name x pos) (.ref l) (.int k u)) Q E s := by
  have hk : k.toNat < ns.length := by omega
  obtain ⟨t, ht⟩ := hi.get k.toNat (ns[k.toNat]'hk) (List.getElem?_eq_getElem hk)
  exact list_item_at N hm h0 hf ht (h _ _)
end
local macro_rules | `(tactic| walk_at "call builtin:len") => `(tactic| (k_here; (with_reducible show wpAny _ _ (call (Value.builtin "len") [Value.ref _]) _ _ _); k_dflt (refine len_at (N := by k_asm) (hm := by k_mem) (hi := by assumption) (hsz := by omega) ?_); intro t' tk'))
local macro_rules | `(tactic| walk_at "subscriptTail") => `(tactic| (k_here; (with_reducible show wpAny _ _ (subscriptTail _ (Expr.Name _ _) _ _) _ _ _); k_dflt (refine ints_item_at (N := by k_asm) (hm := by k_mem) (hi := by assumption) (h0 := by omega) (h1 := by omega) (hf := by omega) ?_); intro c' t'))
theorem draw_call {w : World} {mean : ExcName → Option Value} {mg mb : Str → Option Value} {dp un : Nat} {gd : Option (List Code)} {cn : Str} {cs : Scope} {a : Addr} {ccd : Value} {cl : List (Str × Addr)} {outer : List Env} {A₀ : Around} {base h₀ : Heap} {L : Addr} {m : Str → Option Value} {rest : Ledger} {s : Shared}
    {Q E : Value → Shared → Prop} {P C : Addr} {spot many : Int} {tp t1 : Tok} {n n2 : Nat} {cv : List Value} {cells : List Int}
    (B : Below A₀ base outer h₀) (F : Fr h₀ L s.heap m) (X : (hd.heap_39 w.params).In h₀) (N : News h₀ L s.heap ((P, poolO C spot tp n) :: rest)) (T : Top hd.view_39 (looseW hd.view_39 []) mean mg mb h₀) (hk : cs.kind = .function)
    (hoff : ∀ p ∈ rest, p.1 ≠ P) (hC : (C, W.listOf cv.toArray n2) ∈ rest) (hc : IntsAre cv cells) (hlen : cells.length ≤ 63) (h0 : 0 ≤ spot) (h1 : spot ≤ 1000) (hm : 0 < many) (hroom : dp + 5 < recursionLimit)
    (ret : ∀ v t tp' h' tk', Fr h₀ L h' m → News h₀ L h' ((P, poolO C (spot + 1) tp' n) :: rest) → 0 ≤ v → v < many → Q (.int v t) { s with heap := h', toks := tk' }) :
    wpAny (model PySem.Challenge.rw_sa0562_01.row.prog w) (ktrTop dp un gd cn cs L a ccd cl outer) (call (.ref (ktn_at% "_law_draw")) [.ref P, .int many t1]) Q E s := by
  refine wpAny_call ?_
  k_dflt ktr_enter
  k_steps
  · rename_i kF kN _ _
    exact ret _ _ _ _ _ kF kN (Int.fmod_nonneg_of_pos _ hm) (Int.fmod_lt_of_pos _ hm)
  · rename_i kF kN _ _
    exact ret _ _ _ _ _ kF kN (Int.fmod_nonneg_of_pos _ hm) (Int.fmod_lt_of_pos _ hm)
end Mine
end

section
namespace Mine
theorem start_Lo : True := by
  w_top off
  trivial
end Mine
local macro_rules | `(tactic| walk_at "zz0") => `(tactic| fail)
local macro_rules | `(tactic| walk_at "zz1") => `(tactic| fail)
local macro_rules | `(tactic| walk_at "zz2") => `(tactic| fail)
local macro_rules | `(tactic| walk_at "zz3") => `(tactic| fail)
local macro_rules | `(tactic| walk_at "zz4") => `(tactic| fail)
local macro_rules | `(tactic| walk_at "zz5") => `(tactic| fail)
local macro_rules | `(tactic| walk_at "zz6") => `(tactic| fail)
local macro_rules | `(tactic| walk_at "zz7") => `(tactic| fail)
namespace Mine
local macro_rules | `(tactic| k_mem) => `(tactic| assumption)
local macro_rules | `(tactic| walk_at "call type:list") => `(tactic| (k_here; (with_reducible show wpAny _ _ (call (Value.type _) [Value.ref _]) _ _ _); k_dflt (refine' list_copy_at ?F ?N ?hl ?z ?_; (case F => k_asm); (case N => k_asm); (case hl => k_mem); (case z => omega)); intro D' c' h' F' N' l1; (try k_sweep)))
local macro_rules | `(tactic| walk_at "binaryOp Add ref ref") => `(tactic| (k_here; (with_reducible show wpAny _ _ (binaryOp _ (Value.ref _) (Value.ref _)) _ _ _); k_dflt (refine' add_lists_at ?F ?N ?a ?b ?z ?_; (case F => k_asm); (case N => k_asm); (case a => k_mem); (case b => k_mem); (case z => (simp only [List.length_cons, List.length_nil]; omega))); intro D' h' F' N' l1; (try k_lt l1); (try k_sweep)))
local macro_rules | `(tactic| k_all) => `(tactic| assumption)
local macro_rules | `(tactic| walk_at "exec For Tuple Name cons nil") => `(tactic| (k_here; (rename Fr _ _ _ _ => lF'); (with_unfolding_all refine' For_turns lF' ?_; k_whole)))
local macro_rules | `(tactic| ktr_rel) => `(tactic| first | assumption | (refine' SpAt.right ?ktrA; (case ktrA => ktr_rel)) | (refine' SpAt.tail ?ktrA; (case ktrA => ktr_rel)))
local macro_rules | `(tactic| walk_at "call ref") => `(tactic| (k_here; (with_reducible show wpAny _ _ (call (Value.ref (ktn_at% "add_span")) _) _ _ _); k_dflt (refine' add_call0 ?k1 ?k2 ?k3 ?k4 ?k5 ?kK ?hsub ?hx0 ?hl ?hr ?_; (case k1 => k_asm); (case k2 => k_asm); (case k3 => k_asm); (case k4 => k_asm); (case k5 => k_asm); (case kK => first | exact rfl | assumption); (case hx0 => assumption); (case hsub => exact fun _ h => List.Mem.tail _ (List.Mem.tail _ (List.mem_append.mpr (Or.inl h)))); (case hl => first | assumption | omega); (case hr => ktr_room)); intro r9 tl9 h9 tk9 F9 N9 hl9 ho9; (try dsimp only); (try k_fold)))
local macro_rules | `(tactic| walk_at "call ref") => `(tactic| (k_here; (with_reducible show wpAny _ _ (call (Value.ref (ktn_at% "_law_draw")) _) _ _ _); k_dflt (refine' draw_call ?k1 ?k2 ?k3 ?k4 ?k5 ?kK ?hoff ?hC ?hc ?hlen ?h0 ?h1 ?hm ?hr ?_; (case k1 => k_asm); (case k2 => k_asm); (case k3 => k_asm); (case k4 => k_asm); (case k5 => k_asm); (case kK => first | exact rfl | assumption); (case hoff => assumption); (case hC => assumption); (case hc => assumption); (case hlen => assumption); (case h0 => omega); (case h1 => omega); (case hm => omega); (case hr => ktr_room)); intro v9 t9 tp9 h9 tk9 F9 N9 hv9 hw9; (try dsimp only); (try k_fold)))
local macro_rules | `(tactic| walk_at "exec For Name Call cons nil") => `(tactic| (k_here; (rename Fr _ _ _ _ => lF'); (with_unfolding_all refine' for_hold lF' ?k1 ?k2 ?_; (case k1 => exact rfl); (case k2 => exact rfl); k_whole)))
structure LotSt where
  fo : Addr
  cur : List Sp
  tl : Ledger
  spot : Int
  tp : Tok
theorem lot_call {w : World} {mean : ExcName → Option Value} {mg mb : Str → Option Value} {dp un : Nat} {gd : Option (List Code)} {cn : Str} {cs : Scope} {a : Addr} {ccd : Value} {cl : List (Str × Addr)} {outer : List Env} {A₀ : Around} {base h₀ : Heap} {L : Addr} {m : Str → Option Value} {rest : Ledger} {s : Shared}
    {Q E : Value → Shared → Prop} {P C : Addr} {spot : Int} {tp : Tok} {n n2 : Nat} {cv : List Value} {cells : List Int}
    (B : Below A₀ base outer h₀) (F : Fr h₀ L s.heap m) (X : (hd.heap_39 w.params).In h₀) (N : News h₀ L s.heap ((P, poolO C spot tp n) :: rest)) (T : Top hd.view_39 (looseW hd.view_39 []) mean mg mb h₀) (hk : cs.kind = .function)
    (hoff : ∀ p ∈ rest, p.1 ≠ P) (hC : (C, W.listOf cv.toArray n2) ∈ rest) (hc : IntsAre cv cells) (hlen : cells.length ≤ 63) (h0 : 0 ≤ spot) (h1 : spot ≤ 900) (hroom : dp + 12 < recursionLimit)
    (ret : ∀ r xs tl spot' tp' h' tk', Fr h₀ L h' m → News h₀ L h' ((P, poolO C spot' tp' n) :: (tl ++ rest)) → (∀ p ∈ tl, ∀ q ∈ (P, poolO C spot tp n) :: rest, q.1 < p.1) → 0 ≤ spot' → spot' ≤ spot + 7 → Good xs → SpAt tl r xs → Q (.ref r) { s with heap := h', toks := tk' }) :
    wpAny (model PySem.Challenge.rw_sa0562_01.row.prog w) (ktrTop dp un gd cn cs L a ccd cl outer) (call (.ref (ktn_at% "_law_lot")) [.ref P]) Q E s := by
  refine wpAny_call ?_
  k_dflt ktr_enter
  k_steps
  rename_i f _ l1 _ F1 N1
  have N2 := fun p hp => N1 p (mem_swap hp)
  change News _ _ _ ((P, poolO C spot tp n) :: (f, W.listOf #[] 0) :: rest) at N2
  clear N1
  have hoff2 : ∀ p ∈ (f, W.listOf #[] 0) :: rest, p.1 ≠ P := List.forall_mem_cons.mpr ⟨Nat.ne_of_gt l1.1, hoff⟩
  have hC2 : (C, W.listOf cv.toArray n2) ∈ (f, W.listOf #[] 0) :: rest := .tail _ hC
  k_steps
  rename_i v0 _ _ _ _ _ _ hv0 hw0 _ _ _ _ _ hR F3 N3 _
  unfold Hold
  refine iter_rangeUnr rfl hR (small_one (by omega) (by omega) (by omega) (by omega)) (rangeSize_nat 0 (1 + v0)) F3 N3 (fun I hI => ?_)
  have hn : (1 + v0 - 0).toNat ≤ 3 := by omega
  generalize (1 + v0 - 0).toNat = k0 at hn ⊢
  refine range_items [Str.ofString "turn", Str.ofString "low"] (fun c : LotSt => (P, poolO C c.spot c.tp n) :: (c.tl ++ rest)) (fun c => [(Str.ofString "pool", .ref P), (Str.ofString "found", .ref c.fo)])
    (fun k c => (∀ p ∈ c.tl, ∀ q ∈ (P, poolO C spot tp n) :: rest, q.1 < p.1) ∧ SpAt c.tl c.fo c.cur ∧ Good c.cur ∧ 0 ≤ c.spot ∧ c.spot + 2 * (k : Int) ≤ spot + 7) ?_ ?_ k0 0 _ ⟨f, [], [(f, W.listOf #[] 0)], spot + 1, _⟩ ⟨?_, ⟨[], 0, .head _, SpAll.nil⟩, Good.nil, ?_, ?_⟩ ⟨?_, fun _ _ _ => rfl⟩ (fun p hp => Nat.ne_of_lt (hI p hp))
  · rintro o k v t c u h tk2 ho hI2 ⟨hf, ha, hg, hs0, hs1⟩ F2 N2
    obtain ⟨fo, cur, tl, sp, tp2⟩ := c
    dsimp only at hf ha hg hs0 hs1 F2 N2 hI2 ⊢
    have N4 := fun p hp => N2 p (mem_swap hp)
    change News _ _ _ ((P, poolO C sp tp2 n) :: (I, o) :: (tl ++ rest)) at N4
    clear N2
    have hIP : I ≠ P := (hI2 _ (.head _)).symm
    have hoff4 : ∀ p ∈ (I, o) :: (tl ++ rest), p.1 ≠ P := List.forall_mem_cons.mpr ⟨hIP, fun p hp => (List.mem_append.mp hp).elim (fun h => Nat.ne_of_gt (hf p h _ (.head _))) (hoff p)⟩
    have hC4 : (C, W.listOf cv.toArray n2) ∈ (I, o) :: (tl ++ rest) := .tail _ (List.mem_append.mpr (.inr hC))
    have hlen9 : cur.length ≤ 50 := by have := hg.len; omega
    k_steps
    rename_i v1 _ _ _ _ hv1 hw1 _ _ _ _ v2 _ tp3 _ _ hv2 hw2 _ _ r9 tl9 _ _ hl9 ho9 _ F3 N3
    refine' turn_next ⟨r9, addSpan cur v1 (v1 + 1 + v2), tl9 ++ tl, sp + 1 + 1, tp3⟩ F3 N3 ?q1a ?q1b ?q1c ?q1d ⟨?q1e, ?q1f, hg.add hv1 (by omega), by show 0 ≤ sp + 1 + 1; omega, by show sp + 1 + 1 + 2 * (k : Int) ≤ spot + 7; omega⟩
    case q1a => exact List.mem_append.mpr (.inr (.tail _ (.head _)))
    case q1b =>
      refine List.forall_mem_cons.mpr ⟨⟨List.mem_append.mpr (.inr (.head _)), hIP.symm⟩, fun p hp => ?_⟩
      rw [List.append_assoc] at hp
      rcases List.mem_append.mp hp with hp | hp
      · exact ⟨List.mem_append.mpr (.inl hp), Nat.ne_of_gt (hl9 p hp _ (.tail _ (.head _)))⟩
      · exact ⟨List.mem_append.mpr (.inr (.tail _ (.tail _ hp))), hI2 p (.tail _ hp)⟩
    case q1c => kst_all
    case q1d => exact same_put rfl (same_put rfl (same_put rfl (same_base rfl)))
    case q1e =>
      intro p hp q hq
      rcases List.mem_append.mp hp with hp | hp
      · rcases List.mem_cons.mp hq with rfl | hq
        · have hP9 : P < p.1 := hl9 p hp (P, poolO C (sp + 1 + 1) tp3 n) (.head _)
          exact hP9
        · exact hl9 p hp q (.tail _ (.tail _ (List.mem_append.mpr (.inr hq))))
      · exact hf p hp q hq
    case q1f => exact ho9
  · rintro c u h tk2 ⟨hf, ha, hg, hs0, hs1⟩ F2 N2
    obtain ⟨fo, cur, tl, sp, tp2⟩ := c
    dsimp only at hf ha hg hs0 hs1 F2 N2 ⊢
    k_steps
    rename_i kF kN _ _
    exact ret fo cur tl sp tp2 _ _ kF kN hf hs0 (by omega) hg ha
  · exact List.forall_mem_cons.mpr ⟨List.forall_mem_cons.mpr ⟨l1.1, tb_ltOf l1.2⟩, fun _ h => nomatch h⟩
  · show 0 ≤ spot + 1
    omega
  · show spot + 1 + 2 * (k0 : Int) ≤ spot + 7
    omega
  · kst_all
end Mine
end

section
namespace Mine
theorem start_Ri : True := by
  w_top off
  trivial
end Mine
local macro_rules | `(tactic| walk_at "zz0") => `(tactic| fail)
local macro_rules | `(tactic| walk_at "zz1") => `(tactic| fail)
local macro_rules | `(tactic| walk_at "zz2") => `(tactic| fail)
local macro_rules | `(tactic| walk_at "zz3") => `(tactic| fail)
local macro_rules | `(tactic| walk_at "zz4") => `(tactic| fail)
namespace Mine
local macro_rules | `(tactic| k_mem) => `(tactic| assumption)
local macro_rules | `(tactic| walk_at "call type:list") => `(tactic| (k_here; (with_reducible show wpAny _ _ (call (Value.type _) [Value.ref _]) _ _ _); k_dflt (refine' list_copy_at ?F ?N ?hl ?z ?_; (case F => k_asm); (case N => k_asm); (case hl => k_mem); (case z => omega)); intro D' c' h' F' N' l1; (try k_sweep)))
local macro_rules | `(tactic| walk_at "binaryOp Add ref ref") => `(tactic| (k_here; (with_reducible show wpAny _ _ (binaryOp _ (Value.ref _) (Value.ref _)) _ _ _); k_dflt (refine' add_lists_at ?F ?N ?a ?b ?z ?_; (case F => k_asm); (case N => k_asm); (case a => k_mem); (case b => k_mem); (case z => (simp only [List.length_cons, List.length_nil]; omega))); intro D' h' F' N' l1; (try k_lt l1); (try k_sweep)))
local macro_rules | `(tactic| k_all) => `(tactic| assumption)
local macro_rules | `(tactic| walk_at "exec For Tuple Name cons nil") => `(tactic| (k_here; (rename Fr _ _ _ _ => lF'); (with_unfolding_all refine' For_turns lF' ?_; k_whole)))
local macro_rules | `(tactic| ktr_rel) => `(tactic| first | assumption | (refine' SpAt.right ?ktrA; (case ktrA => ktr_rel)) | (refine' SpAt.tail ?ktrA; (case ktrA => ktr_rel)))
local macro_rules | `(tactic| ktr_rel) => `(tactic| first | assumption | (refine' SpAt.lit0 ?ktrA; (case ktrA => k_mem)) | (refine' SpAt.lit1 ?ktrA ?ktrB; (case ktrA => k_mem); (case ktrB => k_mem)) | (refine' SpAt.right ?ktrA; (case ktrA => ktr_rel)) | (refine' SpAt.tail ?ktrA; (case ktrA => ktr_rel)))
local macro_rules | `(tactic| walk_at "call ref") => `(tactic| (k_here; (with_reducible show wpAny _ _ (call (Value.ref (ktn_at% "without_spans")) _) _ _ _); k_dflt (refine' without_call ?k1 ?k2 ?k3 ?k4 ?k5 ?kK ?hx0 ?hx1 ?hg ?hr ?_; (case k1 => k_asm); (case k2 => k_asm); (case k3 => k_asm); (case k4 => k_asm); (case k5 => k_asm); (case kK => first | exact rfl | assumption); (case hx0 => ktr_rel); (case hx1 => ktr_rel); (case hg => assumption); (case hr => ktr_room)); intro r9 tl9 h9 tk9 F9 N9 hl9 ho9 hg9; (try dsimp only); (try k_sweep); (try k_fold)))
local macro_rules | `(tactic| walk_at "call ref") => `(tactic| (k_here; (with_reducible show wpAny _ _ (call (Value.ref (ktn_at% "_law_both")) _) _ _ _); k_dflt (refine' both_call ?k1 ?k2 ?k3 ?k4 ?k5 ?kK ?hx0 ?hx1 ?hg ?hg2 ?hr ?_; (case k1 => k_asm); (case k2 => k_asm); (case k3 => k_asm); (case k4 => k_asm); (case k5 => k_asm); (case kK => first | exact rfl | assumption); (case hx0 => ktr_rel); (case hx1 => ktr_rel); (case hg => assumption); (case hg2 => assumption); (case hr => ktr_room)); intro r9 tl9 h9 tk9 F9 N9 hl9 ho9 hg9; (try dsimp only); (try k_sweep); (try k_fold)))
local macro_rules | `(tactic| walk_at "call ref") => `(tactic| (k_here; (with_reducible show wpAny _ _ (call (Value.ref (ktn_at% "_law_common")) _) _ _ _); k_dflt (refine' common_call ?k1 ?k2 ?k3 ?k4 ?k5 ?kK ?hx0 ?hx1 ?hg ?hr ?_; (case k1 => k_asm); (case k2 => k_asm); (case k3 => k_asm); (case k4 => k_asm); (case k5 => k_asm); (case kK => first | exact rfl | assumption); (case hx0 => ktr_rel); (case hx1 => ktr_rel); (case hg => assumption); (case hr => ktr_room)); intro r9 tl9 h9 tk9 F9 N9 hl9 ho9 hg9; (try dsimp only); (try k_sweep); (try k_fold)))
local macro_rules | `(tactic| walk_at "call ref") => `(tactic| (k_here; (with_reducible show wpAny _ _ (call (Value.ref (ktn_at% "_law_apart")) _) _ _ _); k_dflt (refine' apart_call ?k1 ?k2 ?k3 ?k4 ?k5 ?kK ?hx0 ?hx1 ?hg ?hg2 ?hr ?_; (case k1 => k_asm); (case k2 => k_asm); (case k3 => k_asm); (case k4 => k_asm); (case k5 => k_asm); (case kK => first | exact rfl | assumption); (case hx0 => ktr_rel); (case hx1 => ktr_rel); (case hg => assumption); (case hg2 => assumption); (case hr => ktr_room)); intro r9 tl9 h9 tk9 F9 N9 hl9 ho9 hg9; (try dsimp only); (try k_sweep); (try k_fold)))
local macro_rules | `(tactic| walk_at "call ref") => `(tactic| (k_here; (with_reducible show wpAny _ _ (call (Value.ref (ktn_at% "span_count")) _) _ _ _); k_dflt (refine' count_call ?k1 ?k2 ?k3 ?k4 ?k5 ?kK ?hx0 ?hg ?hr ?_; (case k1 => k_asm); (case k2 => k_asm); (case k3 => k_asm); (case k4 => k_asm); (case k5 => k_asm); (case kK => first | exact rfl | assumption); (case hx0 => ktr_rel); (case hg => assumption); (case hr => ktr_room)); intro tl9 t9 h9 tk9 F9 N9; (try dsimp only); (try k_sweep); (try k_fold)))
local macro_rules | `(tactic| walk_at "compareOp NotEq ref ref") => `(tactic| (k_here; (with_reducible show wpAny _ _ (compareOp CmpOp.NotEq (Value.ref _) (Value.ref _)) _ _ _); k_dflt (refine' spans_neF ?N ?a ?b ?u ?e ?_; (case N => k_asm); (case a => ktr_rel); (case b => ktr_rel); (case u => ktr_units); (case e => assumption))))
local macro_rules | `(tactic| walk_at "exec If") => `(tactic| (k_here; (rename HoldMark => hHold); clear hHold; refine hold_intro ?_))
theorem ring_call {w : World} {mean : ExcName → Option Value} {mg mb : Str → Option Value} {dp un : Nat} {gd : Option (List Code)} {cn : Str} {cs : Scope} {a : Addr} {ccd : Value} {cl : List (Str × Addr)} {outer : List Env} {A₀ : Around} {base h₀ : Heap} {L : Addr} {m : Str → Option Value} {news : Ledger} {s : Shared}
    {Q E : Value → Shared → Prop} {la lb lc : Addr} {xs ys zs : List Sp}
    (B : Below A₀ base outer h₀) (F : Fr h₀ L s.heap m) (X : (hd.heap_39 w.params).In h₀) (N : News h₀ L s.heap news) (T : Top hd.view_39 (looseW hd.view_39 []) mean mg mb h₀) (hk : cs.kind = .function)
    (hx : SpAt news la xs) (hy : SpAt news lb ys) (hz : SpAt news lc zs) (hgx : Good xs) (hgy : Good ys) (hgz : Good zs) (hroom : dp + 25 < recursionLimit) (hu : un + 200 < cLine)
    (ret : ∀ h' tk', Fr h₀ L h' m → News h₀ L h' news → Q (.bool true) { s with heap := h', toks := tk' }) :
    wpAny (model PySem.Challenge.rw_sa0562_01.row.prog w) (ktrTop dp un gd cn cs L a ccd cl outer) (call (.ref (ktn_at% "_law_ring_right")) [.ref la, .ref lb, .ref lc]) Q E s := by
  have hG : Good xs ∧ Good ys ∧ Good zs ∧ Good [((0 : Int), (20 : Int))] := ⟨hgx, hgy, hgz, Good.one (by omega) (by omega) (by omega)⟩
  have e1 := both_comm hgx.1 hgy.1
  have e2 := both_assoc hgx.1 hgy.1 hgz.1
  have e3 := common_comm hgx.1 hgy.1
  have e4 := common_both hgx.1 hgy.1 hgz.1
  have e5 := de_morgan (b := ys) hG.2.2.2.1 hgx.1
  have e6 := apart_assoc hgx.1 hgy.1 hgz.1
  have e7 := apart_self hgx.1
  have e8 := count_law hgx.1 hgy.1 hgx.2 hgy.2
  refine wpAny_call ?_
  k_dflt ktr_enter
  have hM : HoldMark := ⟨⟩
  k_steps
  rename News _ _ _ _ => N3
  obtain ⟨led0, hN0, hB, hs0⟩ : ∃ led0, News _ _ _ led0 ∧ (SpAt led0 la xs ∧ SpAt led0 lb ys ∧ SpAt led0 lc zs ∧ SpAt led0 _ [((0 : Int), (20 : Int))]) ∧ ∀ p ∈ news, p ∈ led0 := ⟨_, N3, ⟨hx.tail.tail, hy.tail.tail, hz.tail.tail, SpAt.lit1 (.head _) (.tail _ (.head _))⟩, fun p hp => .tail _ (.tail _ hp)⟩
  clear N3
  unfold Hold
  rename News _ _ _ _ => N3
  have N4 := fun p (hp : p ∈ led0) => N3 p (by repeat (first | exact hp | refine List.mem_append.mpr (.inr ?_)))
  change News _ _ _ led0 at N4
  clear N3
  repeat (rename SpAt _ _ _ => hh; clear hh)
  repeat (rename Good _ => hh; clear hh)
  repeat (rename (∀ p ∈ _, ∀ q ∈ _, _ < _) => hh; clear hh)
  obtain ⟨hx0, hy0, hz0, hw0⟩ := id hB
  obtain ⟨hgx, hgy, hgz, hW⟩ := id hG
  walk1
  have hM : HoldMark := ⟨⟩
  k_steps
  unfold Hold
  rename News _ _ _ _ => N3
  have N4 := fun p (hp : p ∈ led0) => N3 p (by repeat (first | exact hp | refine List.mem_append.mpr (.inr ?_)))
  change News _ _ _ led0 at N4
  clear N3
  repeat (rename SpAt _ _ _ => hh; clear hh)
  repeat (rename Good _ => hh; clear hh)
  repeat (rename (∀ p ∈ _, ∀ q ∈ _, _ < _) => hh; clear hh)
  obtain ⟨hx0, hy0, hz0, hw0⟩ := id hB
  obtain ⟨hgx, hgy, hgz, hW⟩ := id hG
  walk1
  have hM : HoldMark := ⟨⟩
  k_steps
  unfold Hold
  rename News _ _ _ _ => N3
  have N4 := fun p (hp : p ∈ led0) => N3 p (by repeat (first | exact hp | refine List.mem_append.mpr (.inr ?_)))
  change News _ _ _ led0 at N4
  clear N3
  repeat (rename SpAt _ _ _ => hh; clear hh)
  repeat (rename Good _ => hh; clear hh)
  repeat (rename (∀ p ∈ _, ∀ q ∈ _, _ < _) => hh; clear hh)
  obtain ⟨hx0, hy0, hz0, hw0⟩ := id hB
  obtain ⟨hgx, hgy, hgz, hW⟩ := id hG
  walk1
  have hM : HoldMark := ⟨⟩
  k_steps
  unfold Hold
  rename News _ _ _ _ => N3
  have N4 := fun p (hp : p ∈ led0) => N3 p (by repeat (first | exact hp | refine List.mem_append.mpr (.inr ?_)))
  change News _ _ _ led0 at N4
  clear N3
  repeat (rename SpAt _ _ _ => hh; clear hh)
  repeat (rename Good _ => hh; clear hh)
  repeat (rename (∀ p ∈ _, ∀ q ∈ _, _ < _) => hh; clear hh)
  obtain ⟨hx0, hy0, hz0, hw0⟩ := id hB
  obtain ⟨hgx, hgy, hgz, hW⟩ := id hG
  walk1
  have hM : HoldMark := ⟨⟩
  k_steps
  unfold Hold
  rename News _ _ _ _ => N3
  have N4 := fun p (hp : p ∈ led0) => N3 p (by repeat (first | exact hp | refine List.mem_append.mpr (.inr ?_)))
  change News _ _ _ led0 at N4
  clear N3
  repeat (rename SpAt _ _ _ => hh; clear hh)
  repeat (rename Good _ => hh; clear hh)
  repeat (rename (∀ p ∈ _, ∀ q ∈ _, _ < _) => hh; clear hh)
  obtain ⟨hx0, hy0, hz0, hw0⟩ := id hB
  obtain ⟨hgx, hgy, hgz, hW⟩ := id hG
  walk1
  have hM : HoldMark := ⟨⟩
  k_steps
  rename_i kF kN _ _
  have e9 : (spanCount (both xs ys) + spanCount (common xs ys) == spanCount xs + spanCount ys) = true := by rw [e8]; exact beq_self_eq_true _
  rw [e9]
  exact ret _ _ kF fun p hp => kN p (by repeat (first | exact hs0 p hp | refine List.mem_append.mpr (.inr ?_) | refine List.Mem.tail _ ?_))
end Mine
end

section
namespace Mine
theorem start_La : True := by
  w_top off
  trivial
end Mine
namespace Mine
local macro_rules | `(tactic| k_mem) => `(tactic| assumption)
local macro_rules | `(tactic| walk_at "call type:list") => `(tactic| (k_here; (with_reducible show wpAny _ _ (call (Value.type _) [Value.ref _]) _ _ _); k_dflt (refine' list_copy_at ?F ?N ?hl ?z ?_; (case F => k_asm); (case N => k_asm); (case hl => k_mem); (case z => omega)); intro D' c' h' F' N' l1; (try k_sweep)))
local macro_rules | `(tactic| walk_at "binaryOp Add ref ref") => `(tactic| (k_here; (with_reducible show wpAny _ _ (binaryOp _ (Value.ref _) (Value.ref _)) _ _ _); k_dflt (refine' add_lists_at ?F ?N ?a ?b ?z ?_; (case F => k_asm); (case N => k_asm); (case a => k_mem); (case b => k_mem); (case z => (simp only [List.length_cons, List.length_nil]; omega))); intro D' h' F' N' l1; (try k_lt l1); (try k_sweep)))
local macro_rules | `(tactic| k_all) => `(tactic| assumption)
local macro_rules | `(tactic| walk_at "exec For Tuple Name cons nil") => `(tactic| (k_here; (rename Fr _ _ _ _ => lF'); (with_unfolding_all refine' For_turns lF' ?_; k_whole)))
local macro_rules | `(tactic| ktr_rel) => `(tactic| first | assumption | (refine' SpAt.right ?ktrA; (case ktrA => ktr_rel)) | (refine' SpAt.tail ?ktrA; (case ktrA => ktr_rel)))
local macro_rules | `(tactic| ktr_rel) => `(tactic| first | assumption | (refine' SpAt.lit0 ?ktrA; (case ktrA => k_mem)) | (refine' SpAt.lit1 ?ktrA ?ktrB; (case ktrA => k_mem); (case ktrB => k_mem)) | (refine' SpAt.right ?ktrA; (case ktrA => ktr_rel)) | (refine' SpAt.tail ?ktrA; (case ktrA => ktr_rel)))
structure HoldA : Prop where
structure HoldC : Prop where
local macro_rules | `(tactic| walk_at "exec Assign") => `(tactic| (k_here; (with_reducible show wpAny _ _ (exec (Stmt.Assign [Expr.Tuple _ _ _] _ _) _) _ _ _); (rename HoldA => hHold); clear hHold; refine hold_intro ?_))
local macro_rules | `(tactic| walk_at "CompSrc") => `(tactic| (k_here; (rename HoldC => hHold); clear hHold; refine hold_intro ?_))
local macro_rules | `(tactic| walk_at "exec If") => `(tactic| (k_here; (rename HoldMark => hHold); clear hHold; refine hold_intro ?_))
theorem has_callB {w : World} {mean : ExcName → Option Value} {mg mb : Str → Option Value} {dp un : Nat} {gd : Option (List Code)} {cn : Str} {cs : Scope} {a : Addr} {ccd : Value} {cl : List (Str × Addr)} {outer : List Env} {A₀ : Around} {base h₀ : Heap} {L : Addr} {m : Str → Option Value} {news : Ledger} {s : Shared}
    {Q E : Value → Shared → Prop} {l : Addr} {xs : List Sp} {low high : Int} {t1 t2 : Tok} {b : Bool}
    (B : Below A₀ base outer h₀) (F : Fr h₀ L s.heap m) (X : (hd.heap_39 w.params).In h₀) (N : News h₀ L s.heap news) (T : Top hd.view_39 (looseW hd.view_39 []) mean mg mb h₀) (hk : cs.kind = .function)
    (hx : SpAt news l xs) (hb : hasSpan xs low high = b) (hroom : dp + 5 < recursionLimit)
    (ret : ∀ tl h' tk', Fr h₀ L h' m → News h₀ L h' (tl ++ news) → Q (.bool b) { s with heap := h', toks := tk' }) :
    wpAny (model PySem.Challenge.rw_sa0562_01.row.prog w) (ktrTop dp un gd cn cs L a ccd cl outer) (call (.ref (ktn_at% "has_span")) [.ref l, .int low t1, .int high t2]) Q E s := by
  subst hb
  exact has_call B F X N T hk hx hroom ret
theorem right_callB {w : World} {mean : ExcName → Option Value} {mg mb : Str → Option Value} {dp un : Nat} {gd : Option (List Code)} {cn : Str} {cs : Scope} {a : Addr} {ccd : Value} {cl : List (Str × Addr)} {outer : List Env} {A₀ : Around} {base h₀ : Heap} {L : Addr} {m : Str → Option Value} {news : Ledger} {s : Shared}
    {Q E : Value → Shared → Prop} {l : Addr} {xs : List Sp}
    (B : Below A₀ base outer h₀) (F : Fr h₀ L s.heap m) (X : (hd.heap_39 w.params).In h₀) (N : News h₀ L s.heap news) (T : Top hd.view_39 (looseW hd.view_39 []) mean mg mb h₀) (hk : cs.kind = .function)
    (hx : SpAt news l xs) (hlen : xs.length ≤ 50) (hb : areRight xs = true) (hroom : dp + 5 < recursionLimit)
    (ret : ∀ tl h' tk', Fr h₀ L h' m → News h₀ L h' (tl ++ news) → Q (.bool true) { s with heap := h', toks := tk' }) :
    wpAny (model PySem.Challenge.rw_sa0562_01.row.prog w) (ktrTop dp un gd cn cs L a ccd cl outer) (call (.ref (ktn_at% "are_right")) [.ref l]) Q E s := by
  exact right_call B F X N T hk hx hlen hroom (by rw [hb]; exact ret)
section
variable {prog : Program} {w : World} {A : Around} {E : Value → Shared → Prop} {s : Shared} {h₀ : Heap} {L : Addr} {news : Ledger} {Q : Value → Shared → Prop}
theorem spans_eqB {a b : Addr} {xs ys : List Sp} {c : Bool} (N : News h₀ L s.heap news) (ha : SpAt news a xs) (hb : SpAt news b ys) (hu : A.units + 64 < cLine) (e : decide (xs = ys) = c) (h : Q (.bool c) s) : wpAny (model prog w) A (compareOp .Eq (.ref a) (.ref b)) Q E s :=
  spans_eq N ha hb hu (by subst e; exact h)
end
local macro_rules | `(tactic| walk_at "compareOp Eq ref ref") => `(tactic| (k_here; (with_reducible show wpAny _ _ (compareOp CmpOp.Eq (Value.ref _) (Value.ref _)) _ _ _); k_dflt (refine' spans_eqT ?N ?a ?b ?u ?e ?_; (case N => k_asm); (case a => ktr_rel); (case b => ktr_rel); (case u => ktr_units); (case e => assumption))))
local macro_rules | `(tactic| walk_at "compareOp Eq ref ref") => `(tactic| (k_here; (with_reducible show wpAny _ _ (compareOp CmpOp.Eq (Value.ref _) (Value.ref _)) _ _ _); k_dflt (refine' spans_eqB ?N ?a ?b ?u ?e ?_; (case N => k_asm); (case a => ktr_rel); (case b => ktr_rel); (case u => ktr_units); (case e => assumption))))
local macro_rules | `(tactic| walk_at "compareOp NotEq ref ref") => `(tactic| (k_here; (with_reducible show wpAny _ _ (compareOp CmpOp.NotEq (Value.ref _) (Value.ref _)) _ _ _); k_dflt (refine' spans_neF ?N ?a ?b ?u ?e ?_; (case N => k_asm); (case a => ktr_rel); (case b => ktr_rel); (case u => ktr_units); (case e => assumption))))
local macro_rules | `(tactic| walk_at "call ref") => `(tactic| (k_here; (with_reducible show wpAny _ _ (call (Value.ref (ktn_at% "_law_lot")) _) _ _ _); k_dflt (refine' lot_call ?k1 ?k2 ?k3 ?k4 ?k5 ?kK ?hoff ?hC ?hc ?hlen ?h0 ?h1 ?hr ?_; (case k1 => k_asm); (case k2 => k_asm); (case k3 => k_asm); (case k4 => k_asm); (case k5 => k_asm); (case kK => first | exact rfl | assumption); (case hoff => assumption); (case hC => assumption); (case hc => assumption); (case hlen => assumption); (case h0 => omega); (case h1 => omega); (case hr => ktr_room)); intro r9 xs9 tl9 sp9 tp9 h9 tk9 F9 N9 hl9 hs9 ht9 hg9 ho9; (try dsimp only); (try k_sweep); (try k_fold)))
local macro_rules | `(tactic| walk_at "call ref") => `(tactic| (k_here; (with_reducible show wpAny _ _ (call (Value.ref (ktn_at% "_law_draw")) _) _ _ _); k_dflt (refine' draw_call ?k1 ?k2 ?k3 ?k4 ?k5 ?kK ?hoff ?hC ?hc ?hlen ?h0 ?h1 ?hm ?hr ?_; (case k1 => k_asm); (case k2 => k_asm); (case k3 => k_asm); (case k4 => k_asm); (case k5 => k_asm); (case kK => first | exact rfl | assumption); (case hoff => assumption); (case hC => assumption); (case hc => assumption); (case hlen => assumption); (case h0 => omega); (case h1 => omega); (case hm => omega); (case hr => ktr_room)); intro v9 t9 tp9 h9 tk9 F9 N9 hv9 hw9; (try dsimp only); (try k_sweep); (try k_fold)))
local macro_rules | `(tactic| walk_at "call ref") => `(tactic| (k_here; (with_reducible show wpAny _ _ (call (Value.ref (ktn_at% "_law_ring_right")) _) _ _ _); k_dflt (refine' ring_call ?k1 ?k2 ?k3 ?k4 ?k5 ?kK ?hx0 ?hx1 ?hx2 ?hg1 ?hg2 ?hg3 ?hr ?hu ?_; (case k1 => k_asm); (case k2 => k_asm); (case k3 => k_asm); (case k4 => k_asm); (case k5 => k_asm); (case kK => first | exact rfl | assumption); (case hx0 => ktr_rel); (case hx1 => ktr_rel); (case hx2 => ktr_rel); (case hg1 => assumption); (case hg2 => assumption); (case hg3 => assumption); (case hr => ktr_room); (case hu => ktr_units)); intro h9 tk9 F9 N9; (try dsimp only); (try k_sweep); (try k_fold)))
local macro_rules | `(tactic| walk_at "call ref") => `(tactic| (k_here; (with_reducible show wpAny _ _ (call (Value.ref (ktn_at% "has_span")) _) _ _ _); k_dflt (refine' has_callB ?k1 ?k2 ?k3 ?k4 ?k5 ?kK ?hx0 ?hb ?hr ?_; (case k1 => k_asm); (case k2 => k_asm); (case k3 => k_asm); (case k4 => k_asm); (case k5 => k_asm); (case kK => first | exact rfl | assumption); (case hx0 => ktr_rel); (case hb => assumption); (case hr => ktr_room)); intro tl9 h9 tk9 F9 N9; (try dsimp only); (try k_sweep); (try k_fold)))
local macro_rules | `(tactic| walk_at "call ref") => `(tactic| (k_here; (with_reducible show wpAny _ _ (call (Value.ref (ktn_at% "_law_common")) _) _ _ _); k_dflt (refine' common_call ?k1 ?k2 ?k3 ?k4 ?k5 ?kK ?hx0 ?hx1 ?hg ?hr ?_; (case k1 => k_asm); (case k2 => k_asm); (case k3 => k_asm); (case k4 => k_asm); (case k5 => k_asm); (case kK => first | exact rfl | assumption); (case hx0 => ktr_rel); (case hx1 => ktr_rel); (case hg => assumption); (case hr => ktr_room)); intro r9 tl9 h9 tk9 F9 N9 hl9 ho9 hg9; (try dsimp only); (try k_sweep); (try k_fold)))
local macro_rules | `(tactic| walk_at "call ref") => `(tactic| (k_here; (with_reducible show wpAny _ _ (call (Value.ref (ktn_at% "_law_ranges")) _) _ _ _); k_dflt (refine' ranges_call ?k1 ?k2 ?k3 ?k4 ?k5 ?kK ?hx0 ?hg ?hr ?_; (case k1 => k_asm); (case k2 => k_asm); (case k3 => k_asm); (case k4 => k_asm); (case k5 => k_asm); (case kK => first | exact rfl | assumption); (case hx0 => ktr_rel); (case hg => assumption); (case hr => ktr_room)); intro r9 tl9 h9 tk9 F9 N9 hl9 ho9 hn9; (try dsimp only); (try k_sweep); (try k_fold)))
local macro_rules | `(tactic| walk_at "call ref") => `(tactic| (k_here; (with_reducible show wpAny _ _ (call (Value.ref (ktn_at% "are_right")) _) _ _ _); k_dflt (refine' right_callB ?k1 ?k2 ?k3 ?k4 ?k5 ?kK ?hx0 ?hl ?hb ?hr ?_; (case k1 => k_asm); (case k2 => k_asm); (case k3 => k_asm); (case k4 => k_asm); (case k5 => k_asm); (case kK => first | exact rfl | assumption); (case hx0 => ktr_rel); (case hb => assumption); (case hl => first | assumption | omega); (case hr => ktr_room)); intro tl9 h9 tk9 F9 N9; (try dsimp only); (try k_sweep); (try k_fold)))
local macro_rules | `(tactic| walk_at "call ref") => `(tactic| (k_here; (with_reducible show wpAny _ _ (call (Value.ref (ktn_at% "count_of")) _) _ _ _); k_dflt (refine' countOf_call ?k1 ?k2 ?k3 ?k4 ?k5 ?kK ?hx0 ?hl ?hr ?_; (case k1 => k_asm); (case k2 => k_asm); (case k3 => k_asm); (case k4 => k_asm); (case k5 => k_asm); (case kK => first | exact rfl | assumption); (case hx0 => ktr_rel); (case hl => first | assumption | omega); (case hr => ktr_room)); intro tl9 t9 h9 tk9 F9 N9; (try dsimp only); (try k_sweep); (try k_fold)))
local macro_rules | `(tactic| walk_at "call ref") => `(tactic| (k_here; (with_reducible show wpAny _ _ (call (Value.ref (ktn_at% "span_count")) _) _ _ _); k_dflt (refine' count_call ?k1 ?k2 ?k3 ?k4 ?k5 ?kK ?hx0 ?hg ?hr ?_; (case k1 => k_asm); (case k2 => k_asm); (case k3 => k_asm); (case k4 => k_asm); (case k5 => k_asm); (case kK => first | exact rfl | assumption); (case hx0 => ktr_rel); (case hg => assumption); (case hr => ktr_room)); intro tl9 t9 h9 tk9 F9 N9; (try dsimp only); (try k_sweep); (try k_fold)))
local macro_rules | `(tactic| walk_at "call ref") => `(tactic| (k_here; (with_reducible show wpAny _ _ (call (Value.ref (ktn_at% "add_range")) _) _ _ _); k_dflt (refine' rng_call ?k1 ?k2 ?k3 ?k4 ?k5 ?kK ?hx0 ?hl ?hr ?_; (case k1 => k_asm); (case k2 => k_asm); (case k3 => k_asm); (case k4 => k_asm); (case k5 => k_asm); (case kK => first | exact rfl | assumption); (case hx0 => ktr_rel); (case hl => first | assumption | omega); (case hr => ktr_room)); intro r9 tl9 h9 tk9 F9 N9 hl9 ho9; (try dsimp only); (try k_sweep); (try k_fold)))
local macro_rules | `(tactic| walk_at "call ref") => `(tactic| (k_here; (with_reducible show wpAny _ _ (call (Value.ref (ktn_at% "add_span")) _) _ _ _); k_dflt (refine' add_call ?k1 ?k2 ?k3 ?k4 ?k5 ?kK ?hx0 ?hl ?hr ?_; (case k1 => k_asm); (case k2 => k_asm); (case k3 => k_asm); (case k4 => k_asm); (case k5 => k_asm); (case kK => first | exact rfl | assumption); (case hx0 => ktr_rel); (case hl => first | assumption | omega); (case hr => ktr_room)); intro r9 tl9 h9 tk9 F9 N9 hl9 ho9; (try dsimp only); (try k_sweep); (try k_fold)))
local macro_rules | `(tactic| walk_at "call ref") => `(tactic| (k_here; (with_reducible show wpAny _ _ (call (Value.ref (ktn_at% "prune")) _) _ _ _); k_dflt (refine' prune_call ?k1 ?k2 ?k3 ?k4 ?k5 ?kK ?hx0 ?hl ?hr ?_; (case k1 => k_asm); (case k2 => k_asm); (case k3 => k_asm); (case k4 => k_asm); (case k5 => k_asm); (case kK => first | exact rfl | assumption); (case hx0 => ktr_rel); (case hl => first | assumption | omega); (case hr => ktr_room)); intro r9 tl9 h9 tk9 F9 N9 ho9; (try dsimp only); (try k_sweep); (try k_fold)))
local macro_rules | `(tactic| walk_at "call ref") => `(tactic| (k_here; (with_reducible show wpAny _ _ (call (Value.ref (ktn_at% "cut_span")) _) _ _ _); k_dflt (refine' cut_call ?k1 ?k2 ?k3 ?k4 ?k5 ?kK ?hx0 ?hl ?hr ?_; (case k1 => k_asm); (case k2 => k_asm); (case k3 => k_asm); (case k4 => k_asm); (case k5 => k_asm); (case kK => first | exact rfl | assumption); (case hx0 => ktr_rel); (case hl => first | assumption | omega); (case hr => ktr_room)); intro r9 tl9 h9 tk9 F9 N9 hl9 ho9; (try dsimp only); (try k_sweep); (try k_fold)))
local macro_rules | `(tactic| walk_at "subscriptTail Name Slice ref ref") => `(tactic| (k_here; (with_reducible show wpAny _ _ (subscriptTail _ (PySem.Expr.Slice none none (some _) _) (Value.ref _) (Value.ref _)) _ _ _); k_dflt (refine' krv_lit ?F ?N ?l ?k ?e ?_ ?s ?t ?z; (case F => k_asm); (case N => k_asm); (case l => exact News.isList (by k_asm) (by assumption)); (case k => exact IsPart.int _ _); (case e => exact rfl); (case s => with_unfolding_all rfl); (case t => kmk_pure); (case z => exact size_le (by assumption))); intro D' h' F' N' l1; (try k_sweep)))
local macro_rules | `(tactic| walk_at "eval ListComp") => `(tactic| (k_here; lcp_look; k_dflt (refine LCp.ListComp_P (F₀ := by k_asm) (by with_unfolding_all rfl) (by decide) (by rfl) (by decide) (by rfl) (by rfl) (by decide) ?_)))
theorem SpAt.compd {D : Addr} {nw : Ledger} {ys : List Value} {acc : List Sp} (h : SpAll nw ys acc) : SpAt ((D, LCg.lst ys) :: nw) D acc := ⟨ys, ys.length, .head _, h.mono fun _ h => .tail _ h⟩
local macro_rules | `(tactic| ktr_rel) => `(tactic| (refine' SpAt.compd ?ktrC; (case ktrC => assumption)))
theorem SpAll.reverse {news : Ledger} : ∀ {vs : List Value} {xs : List Sp}, SpAll news vs xs → SpAll news vs.reverse xs.reverse
  | [], xs, h => by rw [h.unnil]; exact SpAll.nil
  | v :: r, xs, h => by
    obtain ⟨t, x, y, u1, u2, n2, r', rfl, rfl, ht, hr'⟩ := h.uncons
    rw [List.reverse_cons, List.reverse_cons]
    exact hr'.reverse.snoc ht
set_option maxHeartbeats 8000000 in
theorem law_holds : PySem.Challenge.rw_sa0562_01.Holds := hd (by
  k_go0
  (all_goals try k_fold)
  have hMA : HoldA := ⟨⟩
  k_steps
  unfold Hold
  have hMC : HoldC := ⟨⟩
  k_steps
  rename_i ns _ _ _ _ _ _ _ _ _ _ _ _ _ _ _ _ _ _ _ _ _ _ _ _ _ _ _ _ _ _ _ _ _ hI8 _ C _ tp0 o1 P _ l1 _ o F0 N0 d1 _ _ _ _ _ hR F3 N3 _
  clear F0 N0
  obtain ⟨base, hN, hCb, hcb, hoff⟩ : ∃ base, News _ _ _ ((P, poolO C 0 tp0 0) :: base) ∧ (C, W.listOf ys.toArray ys.length) ∈ base ∧ (_, o) ∈ base ∧ ∀ p ∈ base, p.1 ≠ P := ⟨_, N3, .head _, .tail _ (.tail _ (.head _)), List.forall_mem_cons.mpr ⟨Nat.ne_of_lt l1.1, List.forall_mem_cons.mpr ⟨Nat.ne_of_lt l1.2.1, List.forall_mem_cons.mpr ⟨Nat.ne_of_lt l1.2.2, fun _ h => nomatch h⟩⟩⟩⟩
  clear N3
  unfold Hold
  refine LCg.CompSrc.range (by rfl) F3 hN hR (by decide) (by rfl) (by exact Nat.le_of_ble_eq_true rfl) (fun g2 => ?_)
  obtain ⟨cells, hI9, hcl⟩ : ∃ cells, IntsAre ys cells ∧ cells.length ≤ 63 := ⟨_, hI8, by rw [List.length_map, List.length_take]; omega⟩
  clear hI8
  refine compU_ind (fun k yl nw => ∃ spot tp tl, nw = (P, poolO C spot tp 0) :: (tl ++ base) ∧ (∀ v ∈ yl, ∃ l xs, v = .ref l ∧ Good xs ∧ SpAt tl l xs) ∧ yl.length + k = 3 ∧ 0 ≤ spot ∧ spot + 7 * (k : Int) ≤ 21 ∧ (∀ p ∈ tl, p.1 ≠ P)) ?_ ?_ 3 0 [] _ ⟨0, tp0, [], rfl, (fun _ h => nomatch h), rfl, by omega, by omega, fun _ h => nomatch h⟩
  · rintro k v yl nw I oI Cc oC D m₂ h tk2 E' ⟨spot, tp, tl, rfl, hys, hk3, h0, h1, hoff2⟩ hC hx F2 N2 off ne
    have hoff5 := off.mem
    have N5 : News _ _ h ((P, poolO C spot tp 0) :: (I, oI) :: (Cc, oC) :: (D, LCg.lst yl) :: (tl ++ base)) := fun p hp => N2 p (by
      rcases List.mem_cons.mp hp with rfl | hp
      · exact .tail _ (.tail _ (.tail _ (.head _)))
      rcases List.mem_cons.mp hp with rfl | hp
      · exact .head _
      rcases List.mem_cons.mp hp with rfl | hp
      · exact .tail _ (.head _)
      rcases List.mem_cons.mp hp with rfl | hp
      · exact .tail _ (.tail _ (.head _))
      · exact .tail _ (.tail _ (.tail _ (.tail _ hp))))
    clear N2
    have hcb2 : (_, o) ∈ (P, poolO C spot tp 0) :: (I, oI) :: (Cc, oC) :: (D, LCg.lst yl) :: (tl ++ base) := .tail _ (.tail _ (.tail _ (.tail _ (List.mem_append.mpr (.inr hcb)))))
    have hoff6 : ∀ p ∈ (I, oI) :: (Cc, oC) :: (D, LCg.lst yl) :: (tl ++ base), p.1 ≠ P := List.forall_mem_cons.mpr ⟨(hoff5 _ (.head _)).1.symm, List.forall_mem_cons.mpr ⟨(hoff5 _ (.head _)).2.1.symm, List.forall_mem_cons.mpr ⟨(hoff5 _ (.head _)).2.2.symm, fun p hp => (List.mem_append.mp hp).elim (hoff2 p) (hoff p)⟩⟩⟩
    have hC6 : (C, W.listOf ys.toArray ys.length) ∈ (I, oI) :: (Cc, oC) :: (D, LCg.lst yl) :: (tl ++ base) := .tail _ (.tail _ (.tail _ (List.mem_append.mpr (.inr hCb))))
    k_steps
    rename_i r9 xs9 tl9 sp9 tp9 _ _ F9 N9 hl9 hs9 ht9 hg9 ho9
    refine ⟨_, _, (P, poolO C sp9 tp9 0) :: ((tl9 ++ tl) ++ base), rfl, F9, fun p hp => N9 p ?_, LCg.Off3.of (List.forall_mem_cons.mpr ⟨(hoff5 (P, poolO C spot tp 0) (.head _) : P ≠ I ∧ P ≠ Cc ∧ P ≠ D), fun p hp => ?_⟩), trivial, sp9, tp9, tl9 ++ tl, rfl, ?_, ?_, hs9, ?_, ?_⟩
    · rcases List.mem_cons.mp hp with rfl | hp
      · exact .tail _ (List.mem_append.mpr (.inr (.head _)))
      rcases List.mem_cons.mp hp with rfl | hp
      · exact .tail _ (List.mem_append.mpr (.inr (.tail _ (.head _))))
      rcases List.mem_cons.mp hp with rfl | hp
      · exact .tail _ (List.mem_append.mpr (.inr (.tail _ (.tail _ (.head _)))))
      rcases List.mem_cons.mp hp with rfl | hp
      · exact .head _
      · rw [List.append_assoc] at hp
        rcases List.mem_append.mp hp with hp | hp
        · exact .tail _ (List.mem_append.mpr (.inl hp))
        · exact .tail _ (List.mem_append.mpr (.inr (.tail _ (.tail _ (.tail _ hp)))))
    · rw [List.append_assoc] at hp
      rcases List.mem_append.mp hp with hp | hp
      · exact ⟨Nat.ne_of_gt (hl9 p hp _ (.tail _ (.head _))), Nat.ne_of_gt (hl9 p hp _ (.tail _ (.tail _ (.head _)))), Nat.ne_of_gt (hl9 p hp _ (.tail _ (.tail _ (.tail _ (.head _)))))⟩
      · exact hoff5 p (.tail _ hp)
    · intro v hv
      rcases List.mem_append.mp hv with hv | hv
      · obtain ⟨l, xs, e, g, hs⟩ := hys v hv
        exact ⟨l, xs, e, g, hs.right⟩
      · exact ⟨r9, xs9, List.mem_singleton.mp hv, hg9, ho9.mono fun _ h => List.mem_append.mpr (.inl h)⟩
    · simp only [List.length_append, List.length_cons, List.length_nil]
      omega
    · omega
    · intro p hp
      rcases List.mem_append.mp hp with hp | hp
      · exact Nat.ne_of_gt (hl9 p hp _ (.head _))
      · exact hoff2 p hp
  · rintro yl nw ⟨spot, tp, tl, rfl, hys, hk3, h0, h1, hoff2⟩
    obtain ⟨v1, v2, v3, rfl⟩ : ∃ v1 v2 v3, yl = [v1, v2, v3] := by
      match yl, hk3 with
      | [a, b, c], _ => exact ⟨a, b, c, rfl⟩
    obtain ⟨la, xs, rfl, hgx, hx⟩ := hys v1 (.head _)
    obtain ⟨lb, ys2, rfl, hgy, hy⟩ := hys v2 (.tail _ (.head _))
    obtain ⟨lc, zs, rfl, hgz, hz⟩ := hys v3 (.tail _ (.tail _ (.head _)))
    have hx : SpAt (tl ++ base) la xs := hx.mono fun _ h => List.mem_append.mpr (.inl h)
    have hy : SpAt (tl ++ base) lb ys2 := hy.mono fun _ h => List.mem_append.mpr (.inl h)
    have hz : SpAt (tl ++ base) lc zs := hz.mono fun _ h => List.mem_append.mpr (.inl h)
    clear hys
    have hM : HoldMark := ⟨⟩
    k_steps
    rename_i D _ _ o2 _ _ _ _ F6 N6
    obtain ⟨led, N7, hxl, hyl, hzl, hC7, hcell, hoff7⟩ : ∃ led, News _ _ _ ((P, poolO C spot tp 0) :: led) ∧ SpAt led la xs ∧ SpAt led lb ys2 ∧ SpAt led lc zs ∧ (C, W.listOf ys.toArray ys.length) ∈ led ∧ (_, o) ∈ led ∧ ∀ p ∈ led, p.1 ≠ P :=
      ⟨_, fun p hp => N6 p (mem_swap hp), hx.tail, hy.tail, hz.tail, .tail _ (List.mem_append.mpr (.inr hCb)), .tail _ (List.mem_append.mpr (.inr hcb)), List.forall_mem_cons.mpr ⟨o2.1.symm, fun p hp => (List.mem_append.mp hp).elim (hoff2 p) (hoff p)⟩⟩
    clear N6 hx hy hz
    unfold Hold
    walk1
    have hM : HoldMark := ⟨⟩
    k_steps
    rename_i v1 _ _ _ _ hv1 hw1 _ _ _ _ v2 _ _ _ _ hv2 hw2 _ F8 N8
    obtain ⟨led2, N9, hx9⟩ : ∃ led2, News _ _ _ led2 ∧ SpAt led2 la xs := ⟨_, N8, hxl.tail⟩
    clear N8 hxl hyl hzl hC7 hcell hoff7
    have hi0 : v1 < v1 + 1 + v2 := by omega
    have hgA : Good (addSpan xs v1 (v1 + 1 + v2)) := hgx.add hv1 (by omega)
    have hgC : Good (cutSpan xs 0 v1) := hgx.cut 0 v1
    have hlX := hgx.len
    have hlA := hgA.len
    have hlC := hgC.len
    have e1 := has_law hgx.1 hi0
    have e2 := lawRanges_eq hgx.1
    have e3 := areRight_law hgx.1 hgx.2
    have e4 := countOf_law hgx.1
    have e5 := addRange_law hgx.1 hi0
    have e6 := prune_law hgx.1 hgx.2 hv1
    obtain ⟨bq, hb1, hb2⟩ : ∃ bq, hasSpan xs v1 (v1 + 1 + v2) = bq ∧ decide (common xs [(v1, v1 + 1 + v2)] = [(v1, v1 + 1 + v2)]) = bq := ⟨_, e1, rfl⟩
    clear e1
    unfold Hold
    cases bq
    all_goals (walk1; have hM : HoldMark := ⟨⟩; k_steps)
    all_goals
      rename_i r3 _ _ _ _ ho3 hn3 _ F10 N10
      obtain ⟨led3, N11, hx11, hr11⟩ : ∃ led3, News _ _ _ led3 ∧ SpAt led3 la xs ∧ SpAt led3 r3 (lawRanges xs) := ⟨_, N10, by ktr_rel, ho3⟩
      clear N10 ho3 hx9
      obtain ⟨av, an, ham, hav⟩ := id hx11
      have hlav : av.length ≤ 100000 := by have := hav.length; omega
      unfold Hold
      walk1
      have hM : HoldMark := ⟨⟩
      k_steps
      rename_i D0 _ F12 N12 l12
      refine LCp.SrcLP.ledger rfl F12 N12 (.head _) (size_le (by rw [List.length_reverse]; exact hlav)) (fun g2 => ?_)
      refine compP_ind (fun r ys nw => ∃ tl rest acc, nw = tl ++ (D0, W.listOf av.toArray.toList.reverse.toArray 0) :: led3 ∧ SpAll led3 r rest ∧ SpAll nw ys acc ∧ acc ++ rest.map conv = xs.reverse.map conv) ?_ ?_ av.toArray.toList.reverse 0 [] ((D0, W.listOf av.toArray.toList.reverse.toArray 0) :: led3) src_get ⟨[], xs.reverse, [], rfl, hav.reverse, .nil, rfl⟩
      · rintro v r ys nw ⟨tl, rest, acc, rfl, hr, ha, he⟩
        obtain ⟨t, x, y, u1, u2, n2, r', rfl, rfl, ht, hr'⟩ := hr.uncons
        have hsub : ∀ p ∈ led3, p ∈ tl ++ (D0, W.listOf av.toArray.toList.reverse.toArray 0) :: led3 := fun p hp => List.mem_append.mpr (.inr (.tail _ hp))
        have hsr : (D0, W.listOf av.toArray.toList.reverse.toArray 0) ∈ tl ++ (D0, W.listOf av.toArray.toList.reverse.toArray 0) :: led3 := List.mem_append.mpr (.inr (.head _))
        refine ⟨t, x, y, u1, u2, n2, rfl, hsub _ ht, ?_⟩
        intro I oI C oC D m₂ h tk2 E' hC hx hy F2 N2 off ne
        k_steps
        rename_i D1 _ F3 N3 l1a
        refine comp_one F3 N3 off ⟨Nat.ne_of_gt l1a.1, Nat.ne_of_gt l1a.2.1, Nat.ne_of_gt l1a.2.2.1⟩ (src_mem (n := 0) (.tail _ hsr)) ⟨(D1, _) :: tl, r', acc ++ [(x, y - 1)], rfl, hr', ?_, ?_⟩
        · exact (ha.mono fun _ h => .tail _ h).append (SpAll.one (.head _))
        · rw [← he, List.append_assoc]
          rfl
      · rintro ys nw ⟨tl, rest, acc, rfl, hr, ha, he⟩
        have e := hr.unnil
        subst e
        have e7 : lawRanges xs = acc := by rw [e2, ← List.map_reverse, ← he]; exact (List.append_nil _)
        k_steps
        rename_i F13 N13 _
        obtain ⟨led4, N14, hx14, hr14⟩ : ∃ led4, News _ _ _ led4 ∧ SpAt led4 la xs ∧ SpAt led4 r3 (lawRanges xs) := ⟨_, N13, by ktr_rel, by ktr_rel⟩
        clear N13 hx11 hr11
        unfold Hold
        walk1
        have hM : HoldMark := ⟨⟩
        k_steps)
end Mine
end

theorem PySem.Challenge.cw_sa0562_01_holds : PySem.Challenge.rw_sa0562_01.Holds :=
  Mine.law_holds
