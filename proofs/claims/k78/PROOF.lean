import PyProof.Rows.All
import Wide.All
import OpenK.AllK
import Wide.FinOn
import PyProof.EqAt
import PyProof.EqKinds
import PyProof.TupleCall
import KE.KStateDown
import HandS.ForMost
import HandS.ForExc
import HandS.Codes
import HandS.Defaults
import HandS.HeadHook1
import HandS.HeadHook2
import HandS.HeadHook3
import HandS.HeadHook4
import HandS.More
import HandS.Conv
import HandS.Property
import HandS.IsInst
import HandS.MakeKwOnly
import HandS.Star
import HandS.Strs
import HandS.Flow
import HandS.DictComp
import KE.KSuper
import HandS.Head0
import HandS.Head1
import HandS.Head2
import HandS.Walk
import HandS.ClsMeth
import PyProof.EnumMake
import PyProof.Draws
import PyProof.InstNe
import OpenK.KMeth
import PyProof.StrLawsIn
import HandS.ExcSuper
import HandS.ExcInit
import HandS.ExcCtx
import HandS.Ends
import PyProof.ReprRoads
import HandS.HotCalls
import HandS.Comp
import HandS.ExcIs
import HandS.ExcField
import HandS.HeadEnd
import PySem.Challenge.RW_murmurline_k78_whole_swapped_rows_alike
set_option Elab.async false
set_option linter.all false
set_option maxRecDepth 100000
set_option maxHeartbeats 0
/-! The mathematics: relations as lists of masks, rows, swaps, the closure of a set of generators. No program in sight. -/
namespace Mu
/-- the positions of the set bits (masks below 8) -/
def bitsL (m : Nat) : List Nat := (List.range 3).filter fun j => m.testBit j
def imgF (B : List Nat) (w : Nat) (o k : Nat) : Nat := if w.testBit k then o ||| B.getD k 0 else o
def img (B : List Nat) (w : Nat) : Nat := (List.range B.length).foldl (imgF B w) 0
def prod (A B : List Nat) : List Nat := A.map (img B)
def idm (n : Nat) : List Nat := (List.range n).map fun k => 2 ^ k
def Rel (n : Nat) (A : List Nat) : Prop := A.length = n ∧ ∀ m ∈ A, m < 2 ^ n

theorem foldl_bits (B : List Nat) (w j : Nat) : ∀ (l : List Nat) (o : Nat), (l.foldl (imgF B w) o).testBit j = (o.testBit j || l.any fun k => w.testBit k && (B.getD k 0).testBit j)
  | [], o => by simp
  | k :: l, o => by
    rw [List.foldl_cons, foldl_bits B w j l, List.any_cons]
    unfold imgF
    by_cases h : w.testBit k = true
    · rw [if_pos h, Nat.testBit_or, h, Bool.true_and, Bool.or_assoc]
    · rw [if_neg h]
      have h' : w.testBit k = false := by simpa using h
      rw [h', Bool.false_and, Bool.false_or]
theorem img_bit (B : List Nat) (w j : Nat) : (img B w).testBit j = (List.range B.length).any fun k => w.testBit k && (B.getD k 0).testBit j := by
  unfold img
  rw [foldl_bits]
  simp
theorem prod_length (A B : List Nat) : (prod A B).length = A.length := by unfold prod; simp
theorem prod_getD (A B : List Nat) (k : Nat) (h : k < A.length) : (prod A B).getD k 0 = img B (A.getD k 0) := by
  unfold prod
  simp [List.getD, List.getElem?_map, h]
theorem img_img (B C : List Nat) (w : Nat) : img C (img B w) = img (prod B C) w := by
  apply Nat.eq_of_testBit_eq
  intro j
  rw [img_bit, img_bit, Bool.eq_iff_iff]
  simp only [List.any_eq_true, List.mem_range, Bool.and_eq_true, img_bit, prod_length]
  constructor
  · rintro ⟨k, hk, ⟨l, hl, h1, h2⟩, h3⟩
    refine ⟨l, hl, h1, ?_⟩
    rw [prod_getD B C l hl, img_bit]
    simp only [List.any_eq_true, List.mem_range, Bool.and_eq_true]
    exact ⟨k, hk, h2, h3⟩
  · rintro ⟨l, hl, h1, h2⟩
    rw [prod_getD B C l hl, img_bit] at h2
    simp only [List.any_eq_true, List.mem_range, Bool.and_eq_true] at h2
    obtain ⟨k, hk, h3, h4⟩ := h2
    exact ⟨k, hk, ⟨l, hl, h1, h3⟩, h4⟩
theorem prod_assoc (A B C : List Nat) : prod (prod A B) C = prod A (prod B C) := by
  unfold prod
  rw [List.map_map]
  apply List.map_congr_left
  intro w _
  exact img_img B C w
theorem img_lt {n : Nat} {B : List Nat} (h : ∀ m ∈ B, m < 2 ^ n) (w : Nat) : img B w < 2 ^ n := by
  have key : ∀ (l : List Nat) (o : Nat), o < 2 ^ n → l.foldl (imgF B w) o < 2 ^ n := by
    intro l
    induction l with
    | nil => intro o ho; exact ho
    | cons k l ih =>
      intro o ho
      rw [List.foldl_cons]
      apply ih
      unfold imgF
      split
      · apply Nat.or_lt_two_pow ho
        rcases Nat.lt_or_ge k B.length with hk | hk
        · have e : B.getD k 0 = B[k] := by simp [List.getD, hk]
          rw [e]
          exact h _ (List.getElem_mem hk)
        · have e : B.getD k 0 = 0 := by simp [List.getD, List.getElem?_eq_none hk]
          rw [e]
          exact Nat.two_pow_pos n
      · exact ho
  exact key _ 0 (Nat.two_pow_pos n)
theorem prod_rel {n : Nat} {A B : List Nat} (a : Rel n A) (b : Rel n B) : Rel n (prod A B) := by
  refine ⟨by rw [prod_length]; exact a.1, fun m hm => ?_⟩
  unfold prod at hm
  obtain ⟨w, _, rfl⟩ := List.mem_map.mp hm
  exact img_lt b.2 w
theorem idm_rel (n : Nat) : Rel n (idm n) := by
  unfold idm
  refine ⟨by simp, fun m hm => ?_⟩
  obtain ⟨k, hk, rfl⟩ := List.mem_map.mp hm
  exact Nat.pow_lt_pow_right (by decide) (List.mem_range.mp hk)

/-! ### relations as lists of lists -/
/-- what comes out of a row's words, gathered -/
def gather (last : List (List Nat)) (row : List Nat) : List Nat := row.foldl (fun o mid => o ++ (last.getD mid []).filter fun x => decide (x ∉ o)) []
def joinRow (last : List (List Nat)) (row : List Nat) : List Nat := (List.range last.length).filter fun x => decide (x ∈ gather last row)
def joinL (first last : List (List Nat)) : List (List Nat) := first.map (joinRow last)
theorem mem_gatherF (last : List (List Nat)) (x : Nat) : ∀ (row o : List Nat), x ∈ row.foldl (fun o mid => o ++ (last.getD mid []).filter fun x => decide (x ∉ o)) o ↔ x ∈ o ∨ ∃ mid ∈ row, x ∈ last.getD mid []
  | [], o => by simp
  | k :: l, o => by
    rw [List.foldl_cons, mem_gatherF last x l]
    simp only [List.mem_append, List.mem_filter, List.mem_cons, decide_eq_true_eq]
    constructor
    · rintro ((h | ⟨h, _⟩) | ⟨m, hm, h⟩)
      · exact .inl h
      · exact .inr ⟨k, .inl rfl, h⟩
      · exact .inr ⟨m, .inr hm, h⟩
    · rintro (h | ⟨m, rfl | hm, h⟩)
      · exact .inl (.inl h)
      · by_cases hx : x ∈ o
        · exact .inl (.inl hx)
        · exact .inl (.inr ⟨h, hx⟩)
      · exact .inr ⟨m, hm, h⟩
theorem mem_gather (last : List (List Nat)) (row : List Nat) (x : Nat) : x ∈ gather last row ↔ ∃ mid ∈ row, x ∈ last.getD mid [] := by
  unfold gather
  rw [mem_gatherF]
  simp
theorem mem_bitsL (m j : Nat) : j ∈ bitsL m ↔ j < 3 ∧ m.testBit j = true := by
  unfold bitsL
  simp [List.mem_filter]
theorem bitsL_lt {n m j : Nat} (hm : m < 2 ^ n) (h : j ∈ bitsL m) : j < n := by
  rcases Nat.lt_or_ge j n with h1 | h1
  · exact h1
  · have := (mem_bitsL m j).mp h
    rw [Nat.testBit_lt_two_pow (Nat.lt_of_lt_of_le hm (Nat.pow_le_pow_right (by decide) h1))] at this
    cases this.2
theorem bitsL_range {n m : Nat} (hn : n ≤ 3) (hm : m < 2 ^ n) : bitsL m = (List.range n).filter fun j => m.testBit j := by
  have e : List.range 3 = List.range n ++ (List.range (3 - n)).map (n + ·) := by
    rw [← List.range_add]
    congr 1
    omega
  unfold bitsL
  rw [e, List.filter_append]
  have : ((List.range (3 - n)).map (n + ·)).filter (fun j => m.testBit j) = [] := by
    rw [List.filter_eq_nil_iff]
    intro a ha
    obtain ⟨k, _, rfl⟩ := List.mem_map.mp ha
    rw [Nat.testBit_lt_two_pow (Nat.lt_of_lt_of_le hm (Nat.pow_le_pow_right (by decide) (Nat.le_add_right n k)))]
    decide
  rw [this, List.append_nil]
theorem joinRow_bits {n : Nat} {B : List Nat} (hn : n ≤ 3) (b : Rel n B) {w : Nat} (hw : w < 2 ^ n) : joinRow (B.map bitsL) (bitsL w) = bitsL (img B w) := by
  rw [bitsL_range hn (img_lt b.2 w)]
  unfold joinRow
  rw [List.length_map, b.1]
  apply List.filter_congr
  intro x hx
  have hx : x < n := List.mem_range.mp hx
  rw [Bool.eq_iff_iff, decide_eq_true_eq, mem_gather, img_bit]
  simp only [List.any_eq_true, List.mem_range, Bool.and_eq_true]
  have getB : ∀ k, k < B.length → (B.map bitsL).getD k [] = bitsL (B.getD k 0) := by
    intro k hk
    simp [List.getD, List.getElem?_map, hk]
  constructor
  · rintro ⟨mid, h1, h2⟩
    have hmid : mid < B.length := by rw [b.1]; exact bitsL_lt hw h1
    rw [getB mid hmid] at h2
    exact ⟨mid, hmid, ((mem_bitsL w mid).mp h1).2, ((mem_bitsL _ x).mp h2).2⟩
  · rintro ⟨k, hk, h1, h2⟩
    refine ⟨k, (mem_bitsL w k).mpr ⟨by have := b.1; omega, h1⟩, ?_⟩
    rw [getB k hk]
    exact (mem_bitsL _ x).mpr ⟨by omega, h2⟩
theorem joinL_bits {n : Nat} {A B : List Nat} (hn : n ≤ 3) (a : Rel n A) (b : Rel n B) : joinL (A.map bitsL) (B.map bitsL) = (prod A B).map bitsL := by
  unfold joinL prod
  rw [List.map_map, List.map_map]
  apply List.map_congr_left
  intro w hw
  exact joinRow_bits hn b (a.2 w hw)
theorem idm_bits {n : Nat} (hn : n ≤ 3) : (idm n).map bitsL = (List.range n).map fun k => [k] := by
  match n, hn with
  | 0, _ => decide
  | 1, _ => decide
  | 2, _ => decide
  | 3, _ => decide
theorem bitsL_inj {a b : Nat} (ha : a < 8) (hb : b < 8) (h : bitsL a = bitsL b) : a = b := by
  have key : ∀ a : Fin 8, ∀ b : Fin 8, bitsL a.1 = bitsL b.1 → a = b := by decide
  have := key ⟨a, ha⟩ ⟨b, hb⟩ h
  exact congrArg Fin.val this
theorem rows_inj : ∀ {A B : List Nat}, (∀ m ∈ A, m < 8) → (∀ m ∈ B, m < 8) → A.map bitsL = B.map bitsL → A = B
  | [], [], _, _, _ => rfl
  | [], b :: B, _, _, h => by simp at h
  | a :: A, [], _, _, h => by simp at h
  | a :: A, b :: B, ha, hb, h => by
    simp only [List.map_cons, List.cons.injEq] at h
    rw [bitsL_inj (ha a (List.mem_cons_self ..)) (hb b (List.mem_cons_self ..)) h.1, rows_inj (fun m hm => ha m (List.mem_cons_of_mem _ hm)) (fun m hm => hb m (List.mem_cons_of_mem _ hm)) h.2]

/-! ### the table of a row -/
def after (tb : Nat → List Nat) (m : List Nat) (row : List Nat) : List Nat := row.foldl (fun m l => prod m (tb l)) m
theorem after_append (tb : Nat → List Nat) (m x y : List Nat) : after tb m (x ++ y) = after tb (after tb m x) y := by unfold after; rw [List.foldl_append]
theorem after_cons (tb : Nat → List Nat) (m : List Nat) (l : Nat) (y : List Nat) : after tb m (l :: y) = after tb (prod m (tb l)) y := rfl
theorem after_snoc (tb : Nat → List Nat) (m x : List Nat) (l : Nat) : after tb m (x ++ [l]) = prod (after tb m x) (tb l) := by rw [after_append]; rfl
theorem after_rel {n : Nat} {tb : Nat → List Nat} : ∀ {row m : List Nat}, Rel n m → (∀ l ∈ row, Rel n (tb l)) → Rel n (after tb m row)
  | [], _, h, _ => h
  | l :: row, m, h, ht => by
    rw [after_cons]
    exact after_rel (prod_rel h (ht l (List.mem_cons_self ..))) fun l' hl => ht l' (List.mem_cons_of_mem _ hl)
/-- two people can change places -/
def comm (tb : Nat → List Nat) (a b : Nat) : Bool := decide (prod (tb a) (tb b) = prod (tb b) (tb a))
theorem comm_symm (tb : Nat → List Nat) (a b : Nat) : comm tb a b = comm tb b a := by
  unfold comm
  rw [Bool.eq_iff_iff, decide_eq_true_eq, decide_eq_true_eq]
  exact ⟨Eq.symm, Eq.symm⟩
theorem comm_self (tb : Nat → List Nat) (a : Nat) : comm tb a a = true := by unfold comm; simp
theorem after_swap {tb : Nat → List Nat} (m x y : List Nat) {a b : Nat} (h : comm tb a b = true) : after tb m (x ++ a :: b :: y) = after tb m (x ++ b :: a :: y) := by
  rw [after_append, after_append]
  have h : prod (tb a) (tb b) = prod (tb b) (tb a) := of_decide_eq_true h
  show after tb (prod (prod _ (tb a)) (tb b)) y = after tb (prod (prod _ (tb b)) (tb a)) y
  rw [prod_assoc, h, ← prod_assoc]
end Mu
namespace Mu
/-! ### places in a row, swaps -/
/-- the first place of a letter -/
def idx (l : Nat) : List Nat → Option Nat
  | [] => none
  | x :: r => if x = l then some 0 else (idx l r).map (· + 1)
theorem idx_none {l : Nat} : ∀ {r : List Nat}, idx l r = none → l ∉ r
  | [], _ => by simp
  | x :: r, h => by
    unfold idx at h
    split at h
    · cases h
    · rename_i hx
      have := idx_none (r := r) (by simpa using h)
      simp only [List.mem_cons, not_or]
      exact ⟨fun e => hx e.symm, this⟩
theorem idx_some {l : Nat} : ∀ {r : List Nat} {p : Nat}, idx l r = some p → ∃ x y, r = x ++ l :: y ∧ x.length = p ∧ l ∉ x
  | [], _, h => by cases h
  | z :: r, p, h => by
    unfold idx at h
    split at h
    · rename_i hz
      cases h
      exact ⟨[], r, by rw [hz]; rfl, rfl, by simp⟩
    · rename_i hz
      obtain ⟨q, hq, rfl⟩ := Option.map_eq_some_iff.mp h
      obtain ⟨x, y, e, hl, hn⟩ := idx_some hq
      refine ⟨z :: x, y, by rw [e]; rfl, by simp [hl], ?_⟩
      simp only [List.mem_cons, not_or]
      exact ⟨fun e => hz e.symm, hn⟩
theorem idx_app {l : Nat} : ∀ {x y : List Nat}, l ∉ x → idx l (x ++ l :: y) = some x.length
  | [], y, _ => by simp [idx]
  | z :: x, y, h => by
    simp only [List.mem_cons, not_or] at h
    have e : idx l (z :: (x ++ l :: y)) = (idx l (x ++ l :: y)).map (· + 1) := by
      show (if z = l then some 0 else (idx l (x ++ l :: y)).map (· + 1)) = _
      rw [if_neg (fun e => h.1 e.symm)]
    show idx l (z :: (x ++ l :: y)) = _
    rw [e, idx_app h.2]
    rfl
/-- the place of a letter that can be brought to the front, or -1 -/
def frontP (c : Nat → Nat → Bool) (row : List Nat) (l : Nat) : Int := match idx l row with
  | none => -1
  | some p => if (row.take p).all (fun o => c o l) = true then (p : Int) else -1
theorem frontP_ok {c : Nat → Nat → Bool} {row : List Nat} {l : Nat} (h : 0 ≤ frontP c row l) : ∃ x y, row = x ++ l :: y ∧ frontP c row l = (x.length : Int) ∧ l ∉ x ∧ ∀ o ∈ x, c o l = true := by
  unfold frontP at h ⊢
  cases e : idx l row with
  | none => rw [e] at h; exact absurd h (by show ¬ (0 : Int) ≤ -1; decide)
  | some p =>
    rw [e] at h
    obtain ⟨x, y, rfl, hl, hn⟩ := idx_some e
    have ht : (x ++ l :: y).take p = x := by rw [← hl]; simp
    have h2 : 0 ≤ (if ((x ++ l :: y).take p).all (fun o => c o l) = true then (p : Int) else -1) := h
    show ∃ x' y', x ++ l :: y = x' ++ l :: y' ∧ (if ((x ++ l :: y).take p).all (fun o => c o l) = true then (p : Int) else -1) = _ ∧ _
    rw [ht] at h2 ⊢
    by_cases ha : x.all (fun o => c o l) = true
    · rw [if_pos ha]
      exact ⟨x, y, rfl, by rw [hl], hn, fun o ho => List.all_eq_true.mp ha o ho⟩
    · rw [if_neg ha] at h2
      exact absurd h2 (by decide)
theorem frontP_app {c : Nat → Nat → Bool} {x y : List Nat} {l : Nat} (hn : l ∉ x) (h : ∀ o ∈ x, c o l = true) : frontP c (x ++ l :: y) l = (x.length : Int) := by
  unfold frontP
  rw [idx_app hn]
  have ht : (x ++ l :: y).take x.length = x := by simp
  show (if ((x ++ l :: y).take x.length).all (fun o => c o l) = true then (x.length : Int) else -1) = _
  rw [ht, if_pos (List.all_eq_true.mpr h)]
/-- p + s - 1, .., s -/
def desc (s p : Nat) : List Nat := (List.range p).reverse.map (s + ·)
theorem desc_succ (s p : Nat) : desc s (p + 1) = (s + p) :: desc s p := by unfold desc; rw [List.range_succ]; simp
/-- the swaps that lead from what is left of a row to what is left of the other one; s: how many letters stand ahead -/
def pathF (c : Nat → Nat → Bool) : Nat → List Nat → List Nat → Option (List Nat)
  | _, _, [] => some []
  | s, row, l :: o => if frontP c row l < 0 then none else (pathF c (s + 1) (row.take (frontP c row l).toNat ++ row.drop ((frontP c row l).toNat + 1)) o).map fun q => desc s (frontP c row l).toNat ++ q
/-- a list of allowed swaps, one after the other -/
inductive Chain (c : Nat → Nat → Bool) : List Nat → List Nat → List Nat → Prop where
  | nil (r : List Nat) : Chain c r [] r
  | cons {x y q r : List Nat} {a b : Nat} (h : c a b = true) (t : Chain c (x ++ b :: a :: y) q r) : Chain c (x ++ a :: b :: y) (x.length :: q) r
theorem Chain.trans {c : Nat → Nat → Bool} {a q b q' d : List Nat} (h : Chain c a q b) (h' : Chain c b q' d) : Chain c a (q ++ q') d := by
  induction h with
  | nil r => exact h'
  | cons h t ih => exact .cons h (ih h')
theorem snoc_ind {p : List Nat → Prop} (h0 : p []) (h1 : ∀ x a, p x → p (x ++ [a])) : ∀ x, p x := by
  have key : ∀ n (x : List Nat), x.length = n → p x := by
    intro n
    induction n with
    | zero =>
      intro x hx
      rw [List.length_eq_zero_iff.mp hx]
      exact h0
    | succ n ih =>
      intro x hx
      have hne : x ≠ [] := by intro e; rw [e] at hx; cases hx
      rw [← List.dropLast_concat_getLast hne]
      exact h1 _ _ (ih _ (by simp [hx]))
  exact fun x => key _ x rfl
theorem chain_front {c : Nat → Nat → Bool} {l : Nat} (pre : List Nat) : ∀ (x : List Nat), (∀ o ∈ x, c o l = true) → ∀ y, Chain c (pre ++ (x ++ l :: y)) (desc pre.length x.length) (pre ++ (l :: (x ++ y))) := by
  intro x
  induction x using snoc_ind with
  | h0 => intro _ y; exact .nil _
  | h1 x a ih =>
    intro h y
    rw [List.length_append, List.length_singleton, desc_succ]
    have e1 : pre ++ ((x ++ [a]) ++ l :: y) = (pre ++ x) ++ a :: l :: y := by simp
    have e2 : pre.length + x.length = (pre ++ x).length := by simp
    have e3 : pre ++ (l :: ((x ++ [a]) ++ y)) = pre ++ (l :: (x ++ (a :: y))) := by simp
    rw [e1, e2, e3]
    refine .cons (h a (by simp)) ?_
    have := ih (fun o ho => h o (by simp [ho])) (a :: y)
    have e4 : (pre ++ x) ++ l :: a :: y = pre ++ (x ++ l :: (a :: y)) := by simp
    rw [e4]
    exact this
theorem path_chain {c : Nat → Nat → Bool} : ∀ {other row q : List Nat} (pre : List Nat), pathF c pre.length row other = some q → row.length = other.length → Chain c (pre ++ row) q (pre ++ other)
  | [], row, q, pre, h, hl => by
    have e : row = [] := List.length_eq_zero_iff.mp hl
    subst e
    have : q = [] := by simpa [pathF] using h.symm
    subst this
    exact .nil _
  | l :: o, row, q, pre, h, hl => by
    unfold pathF at h
    split at h
    · cases h
    · rename_i hf
      obtain ⟨q', hq, rfl⟩ := Option.map_eq_some_iff.mp h
      obtain ⟨x, y, rfl, hp, hn, hc⟩ := frontP_ok (c := c) (row := row) (l := l) (by omega)
      have e1 : (frontP c (x ++ l :: y) l).toNat = x.length := by rw [hp]; rfl
      rw [e1] at hq ⊢
      have e2 : (x ++ l :: y).take x.length = x := by simp
      have e3 : (x ++ l :: y).drop (x.length + 1) = y := by simp
      rw [e2, e3] at hq
      have e4 : pre.length + 1 = (pre ++ [l]).length := by simp
      rw [e4] at hq
      have ih := path_chain (pre ++ [l]) hq (by simp at hl ⊢; omega)
      have e5 : (pre ++ [l]) ++ (x ++ y) = pre ++ (l :: (x ++ y)) := by simp
      have e6 : (pre ++ [l]) ++ o = pre ++ (l :: o) := by simp
      rw [e5, e6] at ih
      exact (chain_front pre x hc y).trans ih

/-! ### what shows that no swaps lead there -/
def filt (a b : Nat) (r : List Nat) : List Nat := r.filter fun l => l == a || l == b
theorem filt_app (a b : Nat) (x y : List Nat) : filt a b (x ++ y) = filt a b x ++ filt a b y := List.filter_append ..
theorem filt_comm (a b : Nat) (r : List Nat) : filt a b r = filt b a r := by
  unfold filt
  apply List.filter_congr
  intro x _
  exact Bool.or_comm ..
/-- the rows have as many of each letter, and the same orders of people who cannot change places -/
structure Alike (c : Nat → Nat → Bool) (r r' : List Nat) : Prop where
  count : ∀ l, r.count l = r'.count l
  order : ∀ a b, c a b = false → filt a b r = filt a b r'
theorem Chain.alike {c : Nat → Nat → Bool} (cs : ∀ a b, c a b = c b a) {r q r' : List Nat} (h : Chain c r q r') : Alike c r r' := by
  induction h with
  | nil r => exact ⟨fun _ => rfl, fun _ _ _ => rfl⟩
  | @cons x y q r a b hc t ih =>
    refine ⟨fun l => ?_, fun u v huv => ?_⟩
    · rw [← ih.count l]
      simp only [List.count_append, List.count_cons]
      omega
    · rw [← ih.order u v huv, filt_app, filt_app]
      congr 1
      unfold filt
      simp only [List.filter_cons]
      by_cases ha : (a == u || a == v) = true
      · by_cases hb : (b == u || b == v) = true
        · simp only [Bool.or_eq_true, beq_iff_eq] at ha hb
          rcases ha with rfl | rfl <;> rcases hb with rfl | rfl
          · simp
          · rw [hc] at huv; cases huv
          · rw [cs, hc] at huv; cases huv
          · simp
        · rw [if_pos ha, if_neg hb, if_neg hb]
          rw [if_pos ha]
      · rw [if_neg ha, if_neg ha]
theorem filt_nil {a b : Nat} {x : List Nat} (ha : a ∉ x) (hb : b ∉ x) : filt a b x = [] := by
  unfold filt
  rw [List.filter_eq_nil_iff]
  intro z hz
  simp only [Bool.or_eq_true, beq_iff_eq, not_or]
  exact ⟨fun e => ha (e ▸ hz), fun e => hb (e ▸ hz)⟩
theorem alike_path {c : Nat → Nat → Bool} (cs : ∀ a b, c a b = c b a) (cr : ∀ a, c a a = true) : ∀ {other row : List Nat} (s : Nat), Alike c row other → ∃ q, pathF c s row other = some q
  | [], _, _, _ => ⟨[], rfl⟩
  | l :: o, row, s, h => by
    have hm : l ∈ row := by
      have := h.count l
      rw [List.count_cons_self] at this
      exact List.count_pos_iff.mp (by omega)
    obtain ⟨p, hp⟩ : ∃ p, idx l row = some p := by
      cases e : idx l row with
      | none => exact absurd hm (idx_none e)
      | some p => exact ⟨p, rfl⟩
    obtain ⟨x, y, rfl, _, hn⟩ := idx_some hp
    have hc : ∀ u ∈ x, c u l = true := by
      intro u hu
      cases e : c u l with
      | true => rfl
      | false =>
        exfalso
        have h1 := h.order u l e
        have hul : u ≠ l := fun e => hn (e ▸ hu)
        have h2 : filt u l (l :: o) = l :: filt u l o := by
          unfold filt
          rw [List.filter_cons, if_pos (by simp)]
        rw [filt_app, h2] at h1
        have h3 : filt u l x ≠ [] := by
          intro e2
          have : u ∈ filt u l x := by unfold filt; exact List.mem_filter.mpr ⟨hu, by simp⟩
          rw [e2] at this
          cases this
        cases e3 : filt u l x with
        | nil => exact h3 e3
        | cons z r =>
          rw [e3] at h1
          simp only [List.cons_append, List.cons.injEq] at h1
          have hz : z ∈ filt u l x := by rw [e3]; exact List.mem_cons_self ..
          obtain ⟨hz1, _⟩ := List.mem_filter.mp hz
          exact hn (h1.1 ▸ hz1)
    have hf := frontP_app (c := c) (y := y) hn hc
    have ht : (frontP c (x ++ l :: y) l).toNat = x.length := by rw [hf]; rfl
    have e2 : (x ++ l :: y).take x.length = x := by simp
    have e3 : (x ++ l :: y).drop (x.length + 1) = y := by simp
    have ih : Alike c (x ++ y) o := by
      refine ⟨fun u => ?_, fun u v huv => ?_⟩
      · have := h.count u
        simp only [List.count_append, List.count_cons] at this ⊢
        omega
      · have h1 := h.order u v huv
        rw [filt_app] at h1 ⊢
        have huv' : u ≠ v := by
          intro e
          rw [e, cr] at huv
          cases huv
        have cons : ∀ z, filt u v (l :: z) = if (l == u || l == v) = true then l :: filt u v z else filt u v z := by
          intro z
          unfold filt
          rw [List.filter_cons]
        rw [cons, cons] at h1
        by_cases hl : (l == u || l == v) = true
        · rw [if_pos hl, if_pos hl] at h1
          have hx : filt u v x = [] := by
            simp only [Bool.or_eq_true, beq_iff_eq] at hl
            rcases hl with rfl | rfl
            · refine filt_nil hn fun hv => ?_
              have := hc v hv
              rw [cs] at this
              rw [this] at huv
              cases huv
            · refine filt_nil (fun hu => ?_) hn
              rw [hc u hu] at huv
              cases huv
          rw [hx] at h1 ⊢
          simpa using h1
        · rw [if_neg hl, if_neg hl] at h1
          exact h1
    obtain ⟨q, hq⟩ := alike_path cs cr (s + 1) ih
    refine ⟨desc s x.length ++ q, ?_⟩
    unfold pathF
    rw [if_neg (by rw [hf]; omega), ht, e2, e3, hq]
    rfl
/-- the look over a list of letters -/
def clashB (c : Nat → Nat → Bool) (ls row other : List Nat) : Bool :=
  ls.any (fun l => decide (row.count l ≠ other.count l)) || ls.any fun a => ls.any fun b => decide (a < b) && (decide (filt a b row ≠ filt a b other) && !(c a b))
theorem alike_of {c : Nat → Nat → Bool} (cs : ∀ a b, c a b = c b a) (cr : ∀ a, c a a = true) {ls row other : List Nat} (h1 : ∀ l ∈ row, l ∈ ls) (h2 : ∀ l ∈ other, l ∈ ls) (h : clashB c ls row other = false) : Alike c row other := by
  unfold clashB at h
  simp only [Bool.or_eq_false_iff] at h
  obtain ⟨ha, hb⟩ := h
  have ha := List.any_eq_false.mp ha
  have hb := List.any_eq_false.mp hb
  refine ⟨fun l => ?_, fun a b hab => ?_⟩
  · by_cases hl : l ∈ ls
    · have := ha l hl
      simpa using this
    · rw [List.count_eq_zero.mpr fun z => hl (h1 l z), List.count_eq_zero.mpr fun z => hl (h2 l z)]
  · have key : ∀ a b, c a b = false → a < b → a ∈ ls → b ∈ ls → filt a b row = filt a b other := by
      intro a b hab hlt h3 h4
      have z1 : (ls.any fun b => decide (a < b) && (decide (filt a b row ≠ filt a b other) && !(c a b))) = false := Bool.not_eq_true _ ▸ hb a h3
      have z := List.any_eq_false.mp z1 b h4
      rw [hab, decide_eq_true hlt] at z
      simpa using z
    have cnt : ∀ a b, a ∉ ls → c a b = false → filt a b row = filt a b other := by
      intro a b hna hab
      have one : ∀ r : List Nat, (∀ l ∈ r, l ∈ ls) → filt a b r = List.replicate (r.count b) b := by
        intro r hr
        have e : filt a b r = r.filter (· == b) := by
          unfold filt
          apply List.filter_congr
          intro x hx
          have : (x == a) = false := by
            rw [beq_eq_false_iff_ne]
            exact fun e => hna (e ▸ hr x hx)
          rw [this, Bool.false_or]
        rw [e]
        induction r with
        | nil => rfl
        | cons z r ih =>
          have hr' : ∀ l ∈ r, l ∈ ls := fun l hl => hr l (List.mem_cons_of_mem _ hl)
          have e' : filt a b r = r.filter (· == b) := by
            unfold filt
            apply List.filter_congr
            intro x hx
            have : (x == a) = false := by
              rw [beq_eq_false_iff_ne]
              exact fun e => hna (e ▸ hr' x hx)
            rw [this, Bool.false_or]
          rw [List.filter_cons, List.count_cons]
          by_cases hz : (z == b) = true
          · rw [if_pos hz, if_pos hz, ih hr' e', List.replicate_succ, beq_iff_eq.mp hz]
          · rw [if_neg hz, if_neg hz, ih hr' e']
            rfl
      rw [one row h1, one other h2]
      congr 1
      by_cases hl : b ∈ ls
      · have := ha b hl
        simpa using this
      · rw [List.count_eq_zero.mpr fun z => hl (h1 b z), List.count_eq_zero.mpr fun z => hl (h2 b z)]
    by_cases h3 : a ∈ ls
    · by_cases h4 : b ∈ ls
      · rcases Nat.lt_trichotomy a b with hlt | rfl | hgt
        · exact key a b hab hlt h3 h4
        · rw [cr] at hab; cases hab
        · rw [filt_comm a b, filt_comm a b]
          exact key b a (by rw [cs]; exact hab) hgt h4 h3
      · rw [filt_comm a b, filt_comm a b]
        exact cnt b a h4 (by rw [cs]; exact hab)
    · exact cnt a b h3 hab
theorem alike_noclash {c : Nat → Nat → Bool} {ls row other : List Nat} (h : Alike c row other) : clashB c ls row other = false := by
  unfold clashB
  rw [Bool.or_eq_false_iff]
  refine ⟨List.any_eq_false.mpr fun l _ => by simp [h.count l], List.any_eq_false.mpr fun a _ => ?_⟩
  simp only [Bool.not_eq_true]
  refine List.any_eq_false.mpr fun b _ => ?_
  cases e : c a b with
  | true => simp
  | false => simp [h.order a b e]
theorem Alike.len {c : Nat → Nat → Bool} {row other : List Nat} (h : Alike c row other) : row.length = other.length := (List.perm_iff_count.mpr h.count).length_eq

/-! ### the closure of a list of tables -/
def addM (L : List (List Nat)) (m : List Nat) : List (List Nat) := if m ∈ L then L else L ++ [m]
def stepM (gs : List (List Nat)) (L : List (List Nat)) (a : List Nat) : List (List Nat) := gs.foldl (fun L g => addM L (prod a g)) L
def lotF (gs : List (List Nat)) : Nat → Nat → List (List Nat) → List (List Nat)
  | 0, _, L => L
  | f + 1, at_, L => match L[at_]? with
    | none => L
    | some a => if 60 < L.length then L else lotF gs f (at_ + 1) (stepM gs L a)
def due (n : Nat) (gs : List (List Nat)) : List (List Nat) := lotF gs 61 0 [idm n]
theorem addM_mem {L : List (List Nat)} {m x : List Nat} : x ∈ addM L m ↔ x ∈ L ∨ x = m := by
  unfold addM
  split
  · rename_i h
    exact ⟨.inl, fun z => z.elim id fun e => e ▸ h⟩
  · simp
theorem addM_pre (L : List (List Nat)) (m : List Nat) : ∃ r, addM L m = L ++ r := by
  unfold addM
  split
  · exact ⟨[], by simp⟩
  · exact ⟨[m], rfl⟩
theorem stepM_pre (a : List Nat) : ∀ (gs : List (List Nat)) (L : List (List Nat)), ∃ r, stepM gs L a = L ++ r
  | [], L => ⟨[], by simp [stepM]⟩
  | g :: gs, L => by
    obtain ⟨r1, e1⟩ := addM_pre L (prod a g)
    obtain ⟨r2, e2⟩ := stepM_pre a gs (addM L (prod a g))
    refine ⟨r1 ++ r2, ?_⟩
    have : stepM (g :: gs) L a = stepM gs (addM L (prod a g)) a := rfl
    rw [this, e2, e1, List.append_assoc]
theorem stepM_has (a : List Nat) : ∀ (gs : List (List Nat)) (L : List (List Nat)), ∀ g ∈ gs, prod a g ∈ stepM gs L a
  | g :: gs, L, g', h => by
    have e : stepM (g :: gs) L a = stepM gs (addM L (prod a g)) a := rfl
    rw [e]
    rcases List.mem_cons.mp h with rfl | h
    · obtain ⟨r, e⟩ := stepM_pre a gs (addM L (prod a g'))
      rw [e]
      exact List.mem_append_left _ (addM_mem.mpr (.inr rfl))
    · exact stepM_has a gs _ g' h
theorem stepM_rel {n : Nat} {a : List Nat} (ha : Rel n a) : ∀ (gs : List (List Nat)) (L : List (List Nat)), (∀ g ∈ gs, Rel n g) → (∀ m ∈ L, Rel n m) → ∀ m ∈ stepM gs L a, Rel n m
  | [], L, _, h => h
  | g :: gs, L, hg, h => by
    have e : stepM (g :: gs) L a = stepM gs (addM L (prod a g)) a := rfl
    rw [e]
    refine stepM_rel ha gs _ (fun g' hg' => hg g' (List.mem_cons_of_mem _ hg')) fun m hm => ?_
    rcases addM_mem.mp hm with hm | rfl
    · exact h m hm
    · exact prod_rel ha (hg g (List.mem_cons_self ..))
theorem lotF_closed (gs : List (List Nat)) : ∀ (f at_ : Nat) (L : List (List Nat)), at_ + f = 61 → (∀ i < at_, ∀ a, L[i]? = some a → ∀ g ∈ gs, prod a g ∈ L) → (lotF gs f at_ L).length ≤ 60 →
    (∃ r, lotF gs f at_ L = L ++ r) ∧ ∀ a ∈ lotF gs f at_ L, ∀ g ∈ gs, prod a g ∈ lotF gs f at_ L
  | 0, at_, L, hf, h, hl => by
    have hl : L.length ≤ 60 := hl
    refine ⟨⟨[], by simp [lotF]⟩, fun a ha g hg => ?_⟩
    obtain ⟨i, hi⟩ := List.mem_iff_getElem?.mp (show a ∈ L from ha)
    have := (List.getElem?_eq_some_iff.mp hi).1
    exact h i (by omega) a hi g hg
  | f + 1, at_, L, hf, h, hl => by
    unfold lotF at hl ⊢
    cases e : L[at_]? with
    | none =>
      rw [e] at hl
      have hlen := List.getElem?_eq_none_iff.mp e
      refine ⟨⟨[], by simp⟩, fun a ha g hg => ?_⟩
      obtain ⟨i, hi⟩ := List.mem_iff_getElem?.mp (show a ∈ L from ha)
      have := (List.getElem?_eq_some_iff.mp hi).1
      exact h i (by omega) a hi g hg
    | some a =>
      rw [e] at hl
      have hl2 : (if 60 < L.length then L else lotF gs f (at_ + 1) (stepM gs L a)).length ≤ 60 := hl
      by_cases hb : 60 < L.length
      · rw [if_pos hb] at hl2; omega
      · rw [if_neg hb] at hl2
        obtain ⟨r, er⟩ := stepM_pre a gs L
        have ih := lotF_closed gs f (at_ + 1) (stepM gs L a) (by omega) (fun i hi b hb g hg => ?_) hl2
        · show (∃ r, (if 60 < L.length then L else lotF gs f (at_ + 1) (stepM gs L a)) = L ++ r) ∧ ∀ b ∈ (if 60 < L.length then L else lotF gs f (at_ + 1) (stepM gs L a)), ∀ g ∈ gs, prod b g ∈ (if 60 < L.length then L else lotF gs f (at_ + 1) (stepM gs L a))
          rw [if_neg hb]
          obtain ⟨⟨r2, e2⟩, hc⟩ := ih
          exact ⟨⟨r ++ r2, by rw [e2, er, List.append_assoc]⟩, hc⟩
        · have hiL : i < L.length := by
            have := (List.getElem?_eq_some_iff.mp e).1
            omega
          rw [er, List.getElem?_append_left hiL] at hb
          by_cases hia : i = at_
          · subst hia
            rw [e] at hb
            cases hb
            exact stepM_has a gs L g hg
          · rw [er]
            exact List.mem_append_left _ (h i (by omega) b hb g hg)
theorem lotF_rel {n : Nat} (gs : List (List Nat)) (hg : ∀ g ∈ gs, Rel n g) : ∀ (f at_ : Nat) (L : List (List Nat)), (∀ m ∈ L, Rel n m) → ∀ m ∈ lotF gs f at_ L, Rel n m
  | 0, _, _, h => h
  | f + 1, at_, L, h => by
    unfold lotF
    cases e : L[at_]? with
    | none => exact h
    | some a =>
      show ∀ m ∈ (if 60 < L.length then L else lotF gs f (at_ + 1) (stepM gs L a)), Rel n m
      split
      · exact h
      · exact lotF_rel gs hg f _ _ (stepM_rel (h a (List.mem_of_getElem? e)) gs L hg h)
theorem due_after {n : Nat} {gs : List (List Nat)} (hl : (due n gs).length ≤ 60) {tb : Nat → List Nat} : ∀ {row : List Nat}, (∀ l ∈ row, tb l ∈ gs) → after tb (idm n) row ∈ due n gs := by
  obtain ⟨⟨r, er⟩, hc⟩ := lotF_closed gs 61 0 [idm n] rfl (fun i hi => absurd hi (Nat.not_lt_zero _)) hl
  have h0 : idm n ∈ due n gs := by
    unfold due
    rw [er]
    simp
  have key : ∀ (row m : List Nat), m ∈ due n gs → (∀ l ∈ row, tb l ∈ gs) → after tb m row ∈ due n gs := by
    intro row
    induction row with
    | nil => intro m hm _; exact hm
    | cons l row ih =>
      intro m hm h
      rw [after_cons]
      exact ih _ (hc m hm _ (h l (List.mem_cons_self ..))) fun l' hl' => h l' (List.mem_cons_of_mem _ hl')
  intro row h
  exact key row _ h0 h
end Mu
namespace Mu
/-! ### the end of the plain law -/
theorem path_none_clash {tb : Nat → List Nat} {ls R O : List Nat} (h1 : ∀ l ∈ R, l ∈ ls) (h2 : ∀ l ∈ O, l ∈ ls) (h : R.length ≠ O.length ∨ pathF (comm tb) 0 R O = none) : clashB (comm tb) ls R O = true := by
  cases e : clashB (comm tb) ls R O with
  | true => rfl
  | false =>
    have a := alike_of (comm_symm tb) (comm_self tb) h1 h2 e
    rcases h with h | h
    · exact absurd a.len h
    · obtain ⟨q, hq⟩ := alike_path (comm_symm tb) (comm_self tb) 0 a
      rw [h] at hq
      cases hq
theorem path_some_chain {tb : Nat → List Nat} {R O q : List Nat} (hl : R.length = O.length) (h : pathF (comm tb) 0 R O = some q) : Chain (comm tb) R q O := path_chain [] h hl
theorem Chain.step {c : Nat → Nat → Bool} {W q O : List Nat} {p : Nat} (h : Chain c W (p :: q) O) : ∃ x y a b, W = x ++ a :: b :: y ∧ p = x.length ∧ c a b = true ∧ Chain c (x ++ b :: a :: y) q O := by
  cases h with
  | @cons x y q r a b hc t => exact ⟨x, y, a, b, rfl, rfl, hc, t⟩
theorem Chain.done {c : Nat → Nat → Bool} {W O : List Nat} (h : Chain c W [] O) : W = O := by
  cases h
  rfl
theorem Chain.noclash {tb : Nat → List Nat} {ls R O q : List Nat} (h : Chain (comm tb) R q O) : clashB (comm tb) ls R O = false := alike_noclash (h.alike (comm_symm tb))
theorem Chain.after {tb : Nat → List Nat} (m : List Nat) {R O q : List Nat} (h : Chain (comm tb) R q O) : Mu.after tb m R = Mu.after tb m O := by
  induction h with
  | nil r => rfl
  | cons hc t ih => rw [after_swap m _ _ hc, ih]
end Mu
namespace Mz
open PySem L2 He
def top (i : Nat) : Stmt := PySem.Challenge.pw_murmurline_k78_whole_swapped_rows_alike.main.body.getD i (.Pass ⟨0, 0, 0, 0⟩)
abbrev sBits : Stmt := top 23
abbrev sMaskOf : Stmt := top 24
abbrev sMasksOf : Stmt := top 25
abbrev sIdentityMasks : Stmt := top 26
abbrev sImage : Stmt := top 27
abbrev sProduct : Stmt := top 28
abbrev sCommute : Stmt := top 33
abbrev sFrontPlace : Stmt := top 34
abbrev sSwapPath : Stmt := top 35
abbrev sOnly : Stmt := top 36
abbrev sSwapClash : Stmt := top 37
abbrev sCheckSize : Stmt := top 40
abbrev sCheckWord : Stmt := top 41
abbrev sCheckSizes : Stmt := top 43
abbrev sTableOfMasks : Stmt := top 45
abbrev sAllWords : Stmt := top 49
abbrev sCheckPerson : Stmt := top 50
abbrev sLawBox : Stmt := top 63
abbrev sLawTake : Stmt := top 64
abbrev sLawLetters : Stmt := top 65
abbrev sLawWords : Stmt := top 66
abbrev sLawOuts : Stmt := top 67
abbrev sLawPerson : Stmt := top 68
abbrev sLawCalmFolk : Stmt := top 69
abbrev sLawOwn : Stmt := top 70
abbrev sLawCast : Stmt := top 72
abbrev sLawRow : Stmt := top 73
abbrev sLawSameRows : Stmt := top 74
abbrev sLawJoin : Stmt := top 75
abbrev sLawLot : Stmt := top 76
abbrev sLawSingle : Stmt := top 77
abbrev sLawTooMany : Stmt := top 78
abbrev sLawThrough : Stmt := top 79
abbrev sLaw : Stmt := top 80
abbrev sLawMade : Stmt := top 71
abbrev sTable_Init : Stmt := inClass (top 46) 1
abbrev sTable_Eq : Stmt := inClass (top 46) 19
abbrev sPerson_Init : Stmt := inClass (top 51) 0
abbrev sPerson_Heard : Stmt := inClass (top 51) 1
abbrev sPerson_Said : Stmt := inClass (top 51) 2
abbrev sCast_Put : Stmt := inClass (top 58) 1
abbrev sCast_CheckLetters : Stmt := inClass (top 58) 3
abbrev sCast_Letters : Stmt := inClass (top 58) 4
abbrev sCast_RowMasks : Stmt := inClass (top 58) 5
abbrev sCast_Through : Stmt := inClass (top 58) 6
abbrev sCast_Getitem : Stmt := inClass (top 58) 9
abbrev sLot_Keep : Stmt := inClass (top 61) 1
abbrev sLot_MasksAfter : Stmt := inClass (top 61) 2
abbrev sLot_Least : Stmt := inClass (top 61) 6
abbrev sPerson_Table : Stmt := inClass (top 51) 3
abbrev sKnower_Init : Stmt := inClass (top 52) 0
abbrev sKnower_Said : Stmt := inClass (top 52) 1
abbrev sDoubter_Said : Stmt := inClass (top 53) 0
abbrev sKnowingDoubter_Said : Stmt := inClass (top 54) 0
abbrev sTooMany_Init : Stmt := inClass (top 11) 0
abbrev sCast_Init : Stmt := inClass (top 58) 0
abbrev sLot_Init : Stmt := inClass (top 61) 0
abbrev FnP (K : PySem.W.Frag) (x : Str) (st : Stmt) (dv : List V) (f : Addr) : Prop := ∃ fd, FunD K x x (defArgs st) (defBody st) (defScope st) dv [] f fd
abbrev FnM (K : PySem.W.Frag) (x qual : Str) (st : Stmt) (kw : List (Str × V)) (f : Addr) : Prop := ∃ fd, FunD K x qual (defArgs st) (defBody st) (defScope st) [] kw f fd
/-- what the proofs lean on -/
structure Tx (K : PySem.W.Frag) (mg : Str → Option Value) : Prop where
  g_bits : mg "bits" = some (.ref (ga K "bits"))
  g_mask_of : mg "mask_of" = some (.ref (ga K "mask_of"))
  g_masks_of : mg "masks_of" = some (.ref (ga K "masks_of"))
  g_identity_masks : mg "identity_masks" = some (.ref (ga K "identity_masks"))
  g_image : mg "image" = some (.ref (ga K "image"))
  g_product : mg "product" = some (.ref (ga K "product"))
  g_commute : mg "commute" = some (.ref (ga K "commute"))
  g_front_place : mg "front_place" = some (.ref (ga K "front_place"))
  g_swap_path : mg "swap_path" = some (.ref (ga K "swap_path"))
  g_only : mg "only" = some (.ref (ga K "only"))
  g_swap_clash : mg "swap_clash" = some (.ref (ga K "swap_clash"))
  g_check_size : mg "check_size" = some (.ref (ga K "check_size"))
  g_check_word : mg "check_word" = some (.ref (ga K "check_word"))
  g_check_sizes : mg "check_sizes" = some (.ref (ga K "check_sizes"))
  g_table_of_masks : mg "table_of_masks" = some (.ref (ga K "table_of_masks"))
  g_all_words : mg "all_words" = some (.ref (ga K "all_words"))
  g_check_person : mg "check_person" = some (.ref (ga K "check_person"))
  g__law_box : mg "_law_box" = some (.ref (ga K "_law_box"))
  g__law_take : mg "_law_take" = some (.ref (ga K "_law_take"))
  g__law_letters : mg "_law_letters" = some (.ref (ga K "_law_letters"))
  g__law_words : mg "_law_words" = some (.ref (ga K "_law_words"))
  g__law_outs : mg "_law_outs" = some (.ref (ga K "_law_outs"))
  g__law_person : mg "_law_person" = some (.ref (ga K "_law_person"))
  g__law_calm_folk : mg "_law_calm_folk" = some (.ref (ga K "_law_calm_folk"))
  g__law_own : mg "_law_own" = some (.ref (ga K "_law_own"))
  g__law_cast : mg "_law_cast" = some (.ref (ga K "_law_cast"))
  g__law_row : mg "_law_row" = some (.ref (ga K "_law_row"))
  g__law_same_rows : mg "_law_same_rows" = some (.ref (ga K "_law_same_rows"))
  g__law_join : mg "_law_join" = some (.ref (ga K "_law_join"))
  g__law_lot : mg "_law_lot" = some (.ref (ga K "_law_lot"))
  g__law_single : mg "_law_single" = some (.ref (ga K "_law_single"))
  g__law_too_many : mg "_law_too_many" = some (.ref (ga K "_law_too_many"))
  g__law_through : mg "_law_through" = some (.ref (ga K "_law_through"))
  g_law : mg "law" = some (.ref (ga K "law"))
  g__law_made : mg "_law_made" = some (.ref (ga K "_law_made"))
  g_Table : mg "Table" = some (.ref (ga K "Table"))
  g_Person : mg "Person" = some (.ref (ga K "Person"))
  g_Knower : mg "Knower" = some (.ref (ga K "Knower"))
  g_Doubter : mg "Doubter" = some (.ref (ga K "Doubter"))
  g_KnowingDoubter : mg "KnowingDoubter" = some (.ref (ga K "KnowingDoubter"))
  g_Cast : mg "Cast" = some (.ref (ga K "Cast"))
  g_Lot : mg "Lot" = some (.ref (ga K "Lot"))
  g_BadSize : mg "BadSize" = some (.ref (ga K "BadSize"))
  g_BadTable : mg "BadTable" = some (.ref (ga K "BadTable"))
  g_UnknownWord : mg "UnknownWord" = some (.ref (ga K "UnknownWord"))
  g_SizeMismatch : mg "SizeMismatch" = some (.ref (ga K "SizeMismatch"))
  g_BadCount : mg "BadCount" = some (.ref (ga K "BadCount"))
  g_BadPerson : mg "BadPerson" = some (.ref (ga K "BadPerson"))
  g_BadLetter : mg "BadLetter" = some (.ref (ga K "BadLetter"))
  g_UnknownPerson : mg "UnknownPerson" = some (.ref (ga K "UnknownPerson"))
  g_TooMany : mg "TooMany" = some (.ref (ga K "TooMany"))
  g_BadPattern : mg "BadPattern" = some (.ref (ga K "BadPattern"))
  g_SameWord : mg "SameWord" = some (.ref (ga K "SameWord"))
  g_UnknownClue : mg "UnknownClue" = some (.ref (ga K "UnknownClue"))
  g_BadPlace : mg "BadPlace" = some (.ref (ga K "BadPlace"))
  g_TooLong : mg "TooLong" = some (.ref (ga K "TooLong"))
  g_Melted : mg "Melted" = some (.ref (ga K "Melted"))
  g_NothingToUndo : mg "NothingToUndo" = some (.ref (ga K "NothingToUndo"))
  g_NothingToRedo : mg "NothingToRedo" = some (.ref (ga K "NothingToRedo"))
  g_Refused : mg "Refused" = some (.ref (ga K "Refused"))
  g_BadLine : mg "BadLine" = some (.ref (ga K "BadLine"))
  g_MurmurError : mg "MurmurError" = some (.ref (ga K "MurmurError"))
  z_len : mg "len" = none
  z_range : mg "range" = none
  z_tuple : mg "tuple" = none
  z_list : mg "list" = none
  z_int : mg "int" = none
  z_abs : mg "abs" = none
  z_str : mg "str" = none
  z_sorted : mg "sorted" = none
  z_max : mg "max" = none
  z_enumerate : mg "enumerate" = none
  z_isinstance : mg "isinstance" = none
  z_super : mg "super" = none
  z_ValueError : mg "ValueError" = none
  d_bits : FnP K "bits" sBits [] (ga K "bits")
  d_mask_of : FnP K "mask_of" sMaskOf [] (ga K "mask_of")
  d_masks_of : FnP K "masks_of" sMasksOf [] (ga K "masks_of")
  d_identity_masks : FnP K "identity_masks" sIdentityMasks [] (ga K "identity_masks")
  d_image : FnP K "image" sImage [] (ga K "image")
  d_product : FnP K "product" sProduct [] (ga K "product")
  d_commute : FnP K "commute" sCommute [] (ga K "commute")
  d_front_place : FnP K "front_place" sFrontPlace [] (ga K "front_place")
  d_swap_path : FnP K "swap_path" sSwapPath [] (ga K "swap_path")
  d_only : FnP K "only" sOnly [] (ga K "only")
  d_swap_clash : FnP K "swap_clash" sSwapClash [] (ga K "swap_clash")
  d_check_size : FnP K "check_size" sCheckSize [] (ga K "check_size")
  d_check_word : FnP K "check_word" sCheckWord [] (ga K "check_word")
  d_check_sizes : FnP K "check_sizes" sCheckSizes [] (ga K "check_sizes")
  d_table_of_masks : FnP K "table_of_masks" sTableOfMasks [] (ga K "table_of_masks")
  d_all_words : FnP K "all_words" sAllWords [] (ga K "all_words")
  d_check_person : FnP K "check_person" sCheckPerson [] (ga K "check_person")
  d__law_box : FnP K "_law_box" sLawBox [] (ga K "_law_box")
  d__law_take : FnP K "_law_take" sLawTake [] (ga K "_law_take")
  d__law_letters : FnP K "_law_letters" sLawLetters [] (ga K "_law_letters")
  d__law_words : FnP K "_law_words" sLawWords [] (ga K "_law_words")
  d__law_outs : FnP K "_law_outs" sLawOuts [] (ga K "_law_outs")
  d__law_person : FnP K "_law_person" sLawPerson [] (ga K "_law_person")
  d__law_calm_folk : FnP K "_law_calm_folk" sLawCalmFolk [] (ga K "_law_calm_folk")
  d__law_own : FnP K "_law_own" sLawOwn [] (ga K "_law_own")
  d__law_cast : FnP K "_law_cast" sLawCast [] (ga K "_law_cast")
  d__law_row : FnP K "_law_row" sLawRow [] (ga K "_law_row")
  d__law_same_rows : FnP K "_law_same_rows" sLawSameRows [] (ga K "_law_same_rows")
  d__law_join : FnP K "_law_join" sLawJoin [] (ga K "_law_join")
  d__law_lot : FnP K "_law_lot" sLawLot [] (ga K "_law_lot")
  d__law_single : FnP K "_law_single" sLawSingle [] (ga K "_law_single")
  d__law_too_many : FnP K "_law_too_many" sLawTooMany [] (ga K "_law_too_many")
  d__law_through : FnP K "_law_through" sLawThrough [] (ga K "_law_through")
  d_law : FnP K "law" sLaw [] (ga K "law")
  d__law_made : FnP K "_law_made" sLawMade [V.int 0] (ga K "_law_made")
  m_Table___init__ : FnM K "__init__" "Table.__init__" sTable_Init [] (ma K (ga K "Table") "__init__")
  m_Table___eq__ : FnM K "__eq__" "Table.__eq__" sTable_Eq [] (ma K (ga K "Table") "__eq__")
  m_Person___init__ : FnM K "__init__" "Person.__init__" sPerson_Init [] (ma K (ga K "Person") "__init__")
  m_Person_heard : FnM K "heard" "Person.heard" sPerson_Heard [] (ma K (ga K "Person") "heard")
  m_Person_said : FnM K "said" "Person.said" sPerson_Said [] (ma K (ga K "Person") "said")
  m_Cast_put : FnM K "put" "Cast.put" sCast_Put [] (ma K (ga K "Cast") "put")
  m_Cast_check_letters : FnM K "check_letters" "Cast.check_letters" sCast_CheckLetters [] (ma K (ga K "Cast") "check_letters")
  m_Cast_letters : FnM K "letters" "Cast.letters" sCast_Letters [] (ma K (ga K "Cast") "letters")
  m_Cast_row_masks : FnM K "row_masks" "Cast.row_masks" sCast_RowMasks [] (ma K (ga K "Cast") "row_masks")
  m_Cast_through : FnM K "through" "Cast.through" sCast_Through [] (ma K (ga K "Cast") "through")
  m_Cast___getitem__ : FnM K "__getitem__" "Cast.__getitem__" sCast_Getitem [] (ma K (ga K "Cast") "__getitem__")
  m_Lot_keep : FnM K "keep" "Lot.keep" sLot_Keep [] (ma K (ga K "Lot") "keep")
  m_Lot_masks_after : FnM K "masks_after" "Lot.masks_after" sLot_MasksAfter [] (ma K (ga K "Lot") "masks_after")
  m_Lot_least : FnM K "least" "Lot.least" sLot_Least [] (ma K (ga K "Lot") "least")
  m_Cast___init__ : FnM K "__init__" "Cast.__init__" sCast_Init [] (ma K (ga K "Cast") "__init__")
  m_Lot___init__ : FnM K "__init__" "Lot.__init__" sLot_Init [("most", V.int 400)] (ma K (ga K "Lot") "__init__")
  i_GREATEST_SIZE : ∃ t, mg "GREATEST_SIZE" = some (.int 6 t)
  i_MOST_PEOPLE : ∃ t, mg "MOST_PEOPLE" = some (.int 8 t)
  i_LETTERS : ∃ t, mg "LETTERS" = some (.str "abcdefghijklmnopqrstuvwxyz" t)
  c_Table : Cls K (ga K "Table")
  c_Person : Cls K (ga K "Person")
  c_Knower : Cls K (ga K "Knower")
  c_Doubter : Cls K (ga K "Doubter")
  c_KnowingDoubter : Cls K (ga K "KnowingDoubter")
  c_Cast : Cls K (ga K "Cast")
  c_Lot : Cls K (ga K "Lot")
  n_Table_size : NoAttr K (ga K "Table") "size"
  n_Table_masks : NoAttr K (ga K "Table") "masks"
  n_Table_cells : NoAttr K (ga K "Table") "cells"
  n_Person_size : NoAttr K (ga K "Person") "size"
  n_Person_ears : NoAttr K (ga K "Person") "ears"
  n_Person_mouths : NoAttr K (ga K "Person") "mouths"
  n_Person_sure_words : NoAttr K (ga K "Person") "sure_words"
  n_Knower_size : NoAttr K (ga K "Knower") "size"
  n_Knower_ears : NoAttr K (ga K "Knower") "ears"
  n_Knower_mouths : NoAttr K (ga K "Knower") "mouths"
  n_Knower_sure_words : NoAttr K (ga K "Knower") "sure_words"
  n_Doubter_size : NoAttr K (ga K "Doubter") "size"
  n_Doubter_ears : NoAttr K (ga K "Doubter") "ears"
  n_Doubter_mouths : NoAttr K (ga K "Doubter") "mouths"
  n_Doubter_sure_words : NoAttr K (ga K "Doubter") "sure_words"
  n_KnowingDoubter_size : NoAttr K (ga K "KnowingDoubter") "size"
  n_KnowingDoubter_ears : NoAttr K (ga K "KnowingDoubter") "ears"
  n_KnowingDoubter_mouths : NoAttr K (ga K "KnowingDoubter") "mouths"
  n_KnowingDoubter_sure_words : NoAttr K (ga K "KnowingDoubter") "sure_words"
  n_Cast_size : NoAttr K (ga K "Cast") "size"
  n_Cast_folk : NoAttr K (ga K "Cast") "folk"
  n_Cast_roster : NoAttr K (ga K "Cast") "roster"
  n_Lot_steps : NoAttr K (ga K "Lot") "steps"
  n_Lot_start : NoAttr K (ga K "Lot") "start"
  n_Lot_called : NoAttr K (ga K "Lot") "called"
  n_Lot_in_order : NoAttr K (ga K "Lot") "in_order"
  h_Person_heard : Meth K (ga K "Person") "heard" (ma K (ga K "Person") "heard")
  h_Person_said : Meth K (ga K "Person") "said" (ma K (ga K "Person") "said")
  h_Knower_heard : Meth K (ga K "Knower") "heard" (ma K (ga K "Knower") "heard")
  h_Knower_said : Meth K (ga K "Knower") "said" (ma K (ga K "Knower") "said")
  h_Doubter_heard : Meth K (ga K "Doubter") "heard" (ma K (ga K "Doubter") "heard")
  h_Doubter_said : Meth K (ga K "Doubter") "said" (ma K (ga K "Doubter") "said")
  h_KnowingDoubter_heard : Meth K (ga K "KnowingDoubter") "heard" (ma K (ga K "KnowingDoubter") "heard")
  h_KnowingDoubter_said : Meth K (ga K "KnowingDoubter") "said" (ma K (ga K "KnowingDoubter") "said")
  h_Cast_put : Meth K (ga K "Cast") "put" (ma K (ga K "Cast") "put")
  h_Cast_check_letters : Meth K (ga K "Cast") "check_letters" (ma K (ga K "Cast") "check_letters")
  h_Cast_letters : Meth K (ga K "Cast") "letters" (ma K (ga K "Cast") "letters")
  h_Cast_row_masks : Meth K (ga K "Cast") "row_masks" (ma K (ga K "Cast") "row_masks")
  h_Cast_through : Meth K (ga K "Cast") "through" (ma K (ga K "Cast") "through")
  h_Lot_keep : Meth K (ga K "Lot") "keep" (ma K (ga K "Lot") "keep")
  h_Lot_masks_after : Meth K (ga K "Lot") "masks_after" (ma K (ga K "Lot") "masks_after")
  h_Lot_least : Meth K (ga K "Lot") "least" (ma K (ga K "Lot") "least")
  k_Table : Mk K (ga K "Table") (ma K (ga K "Table") "__init__")
  k_Person : Mk K (ga K "Person") (ma K (ga K "Person") "__init__")
  k_Knower : Mk K (ga K "Knower") (ma K (ga K "Knower") "__init__")
  k_Doubter : Mk K (ga K "Doubter") (ma K (ga K "Doubter") "__init__")
  k_KnowingDoubter : Mk K (ga K "KnowingDoubter") (ma K (ga K "KnowingDoubter") "__init__")
  k_Cast : Mk K (ga K "Cast") (ma K (ga K "Cast") "__init__")
  k_Lot : Mk K (ga K "Lot") (ma K (ga K "Lot") "__init__")
  e_heard : ∀ c ∈ ["Knower", "Doubter", "KnowingDoubter"].map Str.ofString, ma K (ga K c) "heard" = ma K (ga K "Person") "heard"
  e_Doubter : ma K (ga K "Doubter") "__init__" = ma K (ga K "Person") "__init__"
  e_KnowingDoubter : ma K (ga K "KnowingDoubter") "__init__" = ma K (ga K "Knower") "__init__"
end Mz
/-! the head's facts -/
namespace Mz
open PySem PySem.Spec PyProof.Rows L2 He C8
/-- the text's file -/
def fileM : Str := PySem.Challenge.pw_murmurline_k78_whole_swapped_rows_alike.main.file
/-! ### the part of the heap that is looked at -/
def frAs {α : Type} : List Addr → (List Addr → α) → α
  | [], k => k []
  | a :: r, k => HandSHeadRun.frNat a fun a => frAs r fun r => k (a :: r)
theorem frAs_eq {α : Type} : ∀ (l : List Addr) (k : List Addr → α), frAs l k = k l
  | [], k => rfl
  | a :: r, k => by
    show HandSHeadRun.frNat a (fun a => frAs r fun r => k (a :: r)) = _
    rw [HandSHeadRun.frNat_eq, frAs_eq r]
def frK {α : Type} (g : Addr → Option Obj) : List Addr → (PySem.W.Frag → α) → α
  | [], k => k []
  | a :: r, k => match g a with
    | none => frK g r k
    | some ⟨c, d, dt, sl⟩ => frK g r fun K => k ((a, ⟨c, d, dt, sl⟩) :: K)
theorem frK_eq {α : Type} (g : Addr → Option Obj) : ∀ (as : List Addr) (k : PySem.W.Frag → α), frK g as k = k (frG g as)
  | [], k => rfl
  | a :: r, k => by
    show (match g a with
      | none => frK g r k
      | some ⟨c, d, dt, sl⟩ => frK g r fun K => k ((a, ⟨c, d, dt, sl⟩) :: K)) = _
    unfold frG
    cases h : g a with
    | none =>
      rw [List.filterMap_cons, h]
      exact frK_eq g r k
    | some o =>
      obtain ⟨c, d, dt, sl⟩ := o
      rw [List.filterMap_cons, h]
      exact frK_eq g r fun K => k ((a, ⟨c, d, dt, sl⟩) :: K)
/-- what an object leads on to: a def's code, defaults, cells; a property's defs -/
def refsM (o : Obj) : List Addr := match o.data with
  | .func fd => refV fd.code ++ (refV fd.defaults ++ (refV fd.kwdefaults ++ fd.closure.map (·.2)))
  | .fields vs => (match o.cls with
    | .type n => (match decide (n = "property") with
      | true => vs.toList.flatMap refV
      | false => [])
    | _ => [])
  | _ => []
def refG (g : Addr → Option Obj) (a : Addr) : List Addr := match g a with
  | some o => refsM o
  | none => []
def entG (g : Addr → Option Obj) (x : Str) (n : Addr) : List Addr := match g n with
  | some ⟨_, _, .dict es _, _⟩ => (match es.toList.find? (·.key.isStr x) with
    | some e => refV e.val
    | none => [])
  | _ => []
def nsG (g : Addr → Option Obj) (C : Addr) : List Addr := match g C with
  | some ⟨_, _, .cls cd, _⟩ => [cd.ns]
  | _ => []
/-- the objects under these names, these classes' names, and what they lead to -/
def asN {α : Type} (g : Addr → Option Obj) (cs fs : List Str) (ms : List (Str × Str)) (k : List Addr → α) : α :=
  frAs (cs.flatMap fun x => entG g x mainGlobals) fun l1 => frAs (l1.flatMap (nsG g)) fun l2 =>
  frAs (ms.flatMap fun p => (entG g p.1 mainGlobals).flatMap fun C => (nsG g C).flatMap (entG g p.2)) fun l3 =>
  frAs (l3.flatMap (refG g)) fun l4 => frAs (l4.flatMap (refG g)) fun l5 =>
  frAs (fs.flatMap fun x => entG g x mainGlobals) fun l6 => frAs (l6.flatMap (refG g)) fun l7 =>
  frAs (mainGlobals :: cStatics :: (l1 ++ (l2 ++ (l3 ++ (l4 ++ (l5 ++ (l6 ++ l7))))))) k
theorem asN_eq {α : Type} (g : Addr → Option Obj) (cs fs : List Str) (ms : List (Str × Str)) : ∃ as, ∀ k : List Addr → α, asN g cs fs ms k = k as := by
  refine ⟨asN g cs fs ms id, fun k => ?_⟩
  unfold asN
  simp only [frAs_eq, id]
/-! ### defs by places of our own -/
abbrev FnC : Type := Option (Str × Str × Arguments × FuncBody × Scope × Addr × List Str × Addr)
def fnC (K : PySem.W.Frag) (f : Addr) : FnC := match K.lookup f with
  | some ⟨_, _, .func fd, _⟩ => some (fd.name, fd.qualname, fd.params, fd.body, fd.scope, fd.globals, fd.closure.map (·.1), fd.builtins)
  | _ => none
structure XD where
  at_ : PySem.W.Frag → Addr
  name : Str
  qual : Str
  st : Stmt
  cl : List Str
def XD.val (d : XD) : FnC := some (d.name, d.qual, defArgs d.st, .stmts (defBody d.st), defScope d.st, mainGlobals, d.cl, builtinsNs)
/-- a def of no closure, no defaults -/
def plB (K : PySem.W.Frag) (f : Addr) (q : Str) : Bool := PySem.W.keepIn K (.ref f) && (match K.lookup f with
  | some ⟨_, _, .func fd, _⟩ => PySem.W.codeIn K fd.code q && (dflB K fd.defaults [] && kwdB K fd.kwdefaults [])
  | _ => false)
theorem plB_ok {K : PySem.W.Frag} {d : XD} (hc : d.cl = []) (e : fnC K (d.at_ K) = d.val) (c : plB K (d.at_ K) d.qual = true) : ∃ fd, FunD K d.name d.qual (defArgs d.st) (defBody d.st) (defScope d.st) [] [] (d.at_ K) fd := by
  obtain ⟨kp, c2⟩ := ba c
  unfold fnC at e
  cases q : K.lookup (d.at_ K) with
  | none =>
    rw [q] at c2
    cases c2
  | some o =>
    obtain ⟨oc, od, dt, osl⟩ := o
    rw [q] at c2 e
    cases dt with
    | func fd =>
      obtain ⟨n1, n2, n3, n4, n5, n6, n7, n8, n9, n10, n11, n12, n13, n14, n15⟩ := fd
      have e2 : (some (n1, n2, n3, n4, n5, n6, n7.map (·.1), n15) : FnC) = some (d.name, d.qual, defArgs d.st, .stmts (defBody d.st), defScope d.st, mainGlobals, d.cl, builtinsNs) := e
      simp only [Option.some.injEq, Prod.mk.injEq] at e2
      obtain ⟨h1, h2, h3, h4, h5, h6, h7, h8⟩ := e2
      rw [hc] at h7
      have h7 : n7 = [] := List.map_eq_nil_iff.mp h7
      subst h1 h2 h3 h4 h5 h6 h7 h8
      have c3 : (PySem.W.codeIn K n13 d.qual && (dflB K n8 [] && kwdB K n9 [])) = true := c2
      obtain ⟨k1, k2⟩ := ba c3
      obtain ⟨k3, k4⟩ := ba k2
      exact ⟨_, ⟨oc, od, n8, n9, n10, n11, n12, n13, n14, osl, rfl, q, k1, dflB_ok k3, kwdB_ok k4⟩, kp⟩
    | _ => cases c2
/-- a def that says super() -/
def nonB : Value → Bool
  | .none => true
  | _ => false
theorem nonB_ok {v : Value} (h : nonB v = true) : v = .none := by
  cases v with
  | none => rfl
  | _ => cases h
def filB (o : Option Value) : Bool := match o with
  | some (Value.str x _) => decide (x = fileM)
  | _ => false
theorem filB_ok {o : Option Value} (h : filB o = true) : ∃ t, o = some (.str fileM t) := by
  cases o with
  | none => cases h
  | some v =>
    cases v with
    | str x t =>
      obtain rfl : x = fileM := of_decide_eq_true h
      exact ⟨t, rfl⟩
    | _ => cases h
def codB (K : PySem.W.Frag) (q : Str) (v : Value) : Bool := match v with
  | .ref c => PySem.W.codeIn K (.ref c) q && (match K.lookup c with
    | some ⟨_, _, .fields fv, _⟩ => filB fv[2]?
    | _ => false)
  | _ => false
theorem codB_ok {K : PySem.W.Frag} {q : Str} {v : Value} (h : codB K q v = true) : ∃ cda, v = .ref cda ∧ PySem.W.codeIn K (.ref cda) q = true ∧ ∃ (ccl : Value) (cdd : Option Addr) (fv : Array Value) (ccs : Array (Option Value)) (tf : Tok), K.lookup cda = some ⟨ccl, cdd, .fields fv, ccs⟩ ∧ fv[2]? = some (.str fileM tf) := by
  cases v with
  | ref c =>
    obtain ⟨h1, h2⟩ := ba (show (PySem.W.codeIn K (.ref c) q && (match K.lookup c with
      | some ⟨_, _, .fields fv, _⟩ => filB fv[2]?
      | _ => false)) = true from h)
    refine ⟨c, rfl, h1, ?_⟩
    cases e : K.lookup c with
    | none =>
      rw [e] at h2
      cases h2
    | some o =>
      obtain ⟨oc, od, dt, sl⟩ := o
      rw [e] at h2
      cases dt with
      | fields fv =>
        obtain ⟨t, ht⟩ := filB_ok h2
        exact ⟨oc, od, fv, sl, t, rfl, ht⟩
      | _ => cases h2
  | _ => cases h
def celB (K : PySem.W.Frag) (D : Addr) (o : Option Obj) : Bool := match o with
  | some ⟨_, _, .cell (some (.ref E)), _⟩ => decide (E = D)
  | _ => false
theorem celB_ok {K : PySem.W.Frag} {D : Addr} {o : Option Obj} (h : celB K D o = true) : ∃ (occ : Value) (odc : Option Addr) (oslc : Array (Option Value)), o = some ⟨occ, odc, .cell (some (.ref D)), oslc⟩ := by
  cases o with
  | none => cases h
  | some o =>
    obtain ⟨oc, od, dt, sl⟩ := o
    cases dt with
    | cell v =>
      cases v with
      | none => cases h
      | some u =>
        cases u with
        | ref E =>
          obtain rfl : E = D := of_decide_eq_true h
          exact ⟨oc, od, sl, rfl⟩
        | _ => cases h
    | _ => cases h
def cloB (K : PySem.W.Frag) (D : Addr) : List (Str × Addr) → Bool
  | [(_, cc)] => celB K D (K.lookup cc)
  | _ => false
theorem cloB_ok {K : PySem.W.Frag} {D : Addr} {cl : List (Str × Addr)} (h : cloB K D cl = true) (hn : cl.map (·.1) = ([("__class__" : Str)] : List Str)) : ∃ cc : Addr, cl = ([(("__class__" : Str), cc)] : List (Str × Addr)) ∧ ∃ (occ : Value) (odc : Option Addr) (oslc : Array (Option Value)), K.lookup cc = some ⟨occ, odc, .cell (some (.ref D)), oslc⟩ := by
  match cl, h, hn with
  | [(y, cc)], h, hn =>
    have h9 : [y] = [("__class__" : Str)] := hn
    injection h9 with h9
    exact ⟨cc, by rw [h9], celB_ok (K := K) h⟩
def spB (K : PySem.W.Frag) (f D : Addr) (q : Str) : Bool := PySem.W.isClsIn K D && (match K.lookup f with
  | some ⟨_, _, .func fd, _⟩ => nonB fd.defaults && (codB K q fd.code && cloB K D fd.closure)
  | _ => false)
/-- the class of an exception -/
def oxB (K : PySem.W.Frag) (C : Addr) : Bool := match K.lookup C with
  | some ⟨.type t, _, .cls cd, sl⟩ => decide (t = "type") && (match cd.mro, sl.toList with
    | .ref C' :: bm, [_, _, _, _, some (.builtin n), _] => decide (C' = C) && (decide (n = "ValueError.__new__") && (!cd.hasDel && (cd.hasDict && PySem.HandSPX.refsVE bm)))
    | _, _ => false)
  | _ => false

theorem oxB_ok {K : PySem.W.Frag} {C : Addr} (h : oxB K C = true) : ∃ nm q N bs bm sn sub ab col dd k0 k1 k2 k3 k5, K.lookup C = some (excClassObj nm q C N bs bm true sn sub ab col dd k0 k1 k2 k3 k5 "ValueError.__new__") ∧ PySem.HandSPX.refsVE bm = true := by
  unfold oxB at h
  split at h
  · rename_i t dd cd sl ho
    obtain ⟨h1, g1⟩ := ba h
    obtain rfl : t = "type" := of_decide_eq_true h1
    split at g1
    · rename_i C' bm k0 k1 k2 k3 n k5 hm hs
      obtain ⟨h2, g2⟩ := ba g1
      obtain ⟨h3, g3⟩ := ba g2
      obtain ⟨h4, g4⟩ := ba g3
      obtain ⟨h5, h6⟩ := ba g4
      obtain rfl : C' = C := of_decide_eq_true h2
      obtain rfl : n = "ValueError.__new__" := of_decide_eq_true h3
      obtain ⟨nm, bs, mro, ns, qn, hd, sn, sub, ab, col, del⟩ := cd
      dsimp only at hm h4 h5
      have h4 : del = false := by
        cases del with
        | false => rfl
        | true => cases h4
      subst hm h4 h5
      have hsl : sl = #[k0, k1, k2, k3, some (.builtin "ValueError.__new__"), k5] := by
        obtain ⟨l⟩ := sl
        simp only at hs
        rw [hs]
      subst hsl
      exact ⟨nm, qn, ns, bs, bm, sn, sub, ab, col, dd, k0, k1, k2, k3, k5, ho, h6⟩
    · cases g1
  · cases h
/-! ### the Hook -/
def csM : List Str := List.map Str.ofString ["Table", "Person", "Knower", "Doubter", "KnowingDoubter", "Cast", "Lot", "BadSize", "BadTable", "UnknownWord", "SizeMismatch", "BadCount", "BadPerson", "BadLetter", "UnknownPerson", "TooMany", "BadPattern", "SameWord", "UnknownClue", "BadPlace", "TooLong", "Melted", "NothingToUndo", "NothingToRedo", "Refused", "BadLine", "MurmurError"]
def fsM : List Str := List.map Str.ofString ["bits", "mask_of", "masks_of", "identity_masks", "image", "product", "commute", "front_place", "swap_path", "only", "swap_clash", "check_size", "check_word", "check_sizes", "table_of_masks", "all_words", "check_person", "_law_box", "_law_take", "_law_letters", "_law_words", "_law_outs", "_law_person", "_law_calm_folk", "_law_own", "_law_cast", "_law_row", "_law_same_rows", "_law_join", "_law_lot", "_law_single", "_law_too_many", "_law_through", "law", "_law_made"]
def msM : List (Str × Str) := List.map (fun p => (Str.ofString p.1, Str.ofString p.2)) [("Table", "__init__"), ("Table", "__eq__"), ("Person", "__init__"), ("Person", "heard"), ("Person", "said"), ("Cast", "put"), ("Cast", "check_letters"), ("Cast", "letters"), ("Cast", "row_masks"), ("Cast", "through"), ("Cast", "__getitem__"), ("Lot", "keep"), ("Lot", "masks_after"), ("Lot", "least"), ("Person", "table"), ("Knower", "__init__"), ("Knower", "said"), ("Doubter", "said"), ("KnowingDoubter", "said"), ("TooMany", "__init__"), ("Cast", "__init__"), ("Lot", "__init__")]
abbrev AlM : Type := AlD × Bool × List FnC
def obsK (fa : List Fa) (fn : List DefD) (ex : List (PySem.W.Frag → Bool)) (xs : List XD) (K : PySem.W.Frag) : AlM := (obsD fa fn K, ex.all fun f => f K, xs.map fun d => fnC K (d.at_ K))
def obsM (fa : List Fa) (fn : List DefD) (ex : List (PySem.W.Frag → Bool)) (xs : List XD) (g : Addr → Option Obj) : AlM := asN g csM fsM msM fun as => frK g as fun K => obsK fa fn ex xs K
def valM (fn : List DefD) (xs : List XD) : AlM := (valD fn, true, xs.map XD.val)
def SaysM (fa : List Fa) (fn : List DefD) (ex : List (PySem.W.Frag → Bool)) (xs : List XD) (K : PySem.W.Frag) : Prop := obsK fa fn ex xs K = valM fn xs
theorem saysM_of {fa : List Fa} {fn : List DefD} {ex : List (PySem.W.Frag → Bool)} {xs : List XD} {h : Heap} (e : obsM fa fn ex xs h.get? = valM fn xs) : ∃ K : PySem.W.Frag, K.In h ∧ SaysM fa fn ex xs K := by
  obtain ⟨as, q⟩ := asN_eq (α := AlM) h.get? csM fsM msM
  unfold obsM at e
  rw [q, frK_eq] at e
  exact ⟨_, frG_in, e⟩
def hookM (fa : List Fa) (fn : List DefD) (ex : List (PySem.W.Frag → Bool)) (xs : List XD) : PySem.W.Hook where
  α := AlM
  obs := fun s => obsM fa fn ex xs s.heap.get?
  val := fun _ => valM fn xs
  says := fun _ h => ∃ K : PySem.W.Frag, K.In h ∧ SaysM fa fn ex xs K
  of := fun _ _ e => saysM_of e
  keeps := fun _ _ _ ⟨K, hK, c⟩ k => ⟨K, PySem.W.Frag.In.keeps hK k, c⟩
theorem obsM_eq {fa : List Fa} {fn : List DefD} {ex : List (PySem.W.Frag → Bool)} {xs : List XD} {g : Addr → Option Obj} {s : Shared} (h : ∀ a, g a = s.heap.get? a) : obsM fa fn ex xs g = (hookM fa fn ex xs).obs s := by
  have e : g = s.heap.get? := funext h
  rw [e]
  rfl
section
variable {fa : List Fa} {fn : List DefD} {ew : List (PySem.W.Frag → Bool)} {xw : List XD} {K : PySem.W.Frag}
theorem SaysM.d (c : SaysM fa fn ew xw K) : SaysD fa fn K := congrArg (fun z : AlM => z.1) c
theorem SaysM.ex (c : SaysM fa fn ew xw K) (i : Nat) {f : PySem.W.Frag → Bool} (h : ew[i]? = some f := by rfl) : f K = true := by
  have c1 : (ew.all fun f => f K) = true := congrArg (fun z : AlM => z.2.1) c
  exact List.all_eq_true.mp c1 f (List.mem_of_getElem? h)
theorem SaysM.xs (c : SaysM fa fn ew xw K) (i : Nat) {d : XD} (h : xw[i]? = some d := by rfl) : fnC K (d.at_ K) = d.val := by
  have e : xw.map (fun d => fnC K (d.at_ K)) = xw.map XD.val := congrArg (fun z : AlM => z.2.2) c
  have e2 : (xw.map fun d => fnC K (d.at_ K))[i]? = (xw.map XD.val)[i]? := by rw [e]
  rw [List.getElem?_map, List.getElem?_map, h] at e2
  exact Option.some.inj e2
end
/-! ### what is asked -/
def pT (K : PySem.W.Frag) : Addr := ma K (ga K "Person") "table"
def gT (K : PySem.W.Frag) : Addr := match PySem.W.recIn K (pT K) "property" with
  | some (.ref g :: _) => g
  | _ => 0
def recB (K : PySem.W.Frag) : Bool := match PySem.W.recIn K (pT K) "property" with
  | some (.ref g :: _) => true
  | _ => false
theorem recB_ok {K : PySem.W.Frag} (h : recB K = true) : ∃ rest, PySem.W.recIn K (pT K) "property" = some (.ref (gT K) :: rest) := by
  unfold recB at h
  split at h
  · rename_i g r e
    refine ⟨r, ?_⟩
    unfold gT
    rw [e]
  · cases h
def propB (C : Str) (K : PySem.W.Frag) : Bool := eqO (PySem.W.findIn K (.ref (ga K C)) "table") (some (some (.ref (pT K)))) && (eqO (PySem.W.specialIn K (.ref (pT K)) "__get__") (some (some (.builtin "property.__get__"))) && (decide (PySem.W.takesIn K (.ref (pT K)) = some true) && recB K))
theorem propB_ok {C : Str} {K : PySem.W.Frag} (h : propB C K = true) : PropOf K (ga K C) "table" (pT K) (gT K) := by
  obtain ⟨h1, h⟩ := ba h
  obtain ⟨h2, h⟩ := ba h
  obtain ⟨h3, h4⟩ := ba h
  exact ⟨eqO_ok h1, eqO_ok h2, of_decide_eq_true h3, recB_ok h4⟩
def supB (C D m : Str) (E : Str) (K : PySem.W.Frag) : Bool := decide (PySem.W.mroIn K (ga K C) (.ref (ga K D)) = some true) && (eqO (PySem.W.ks_superIn K (ga K C) (ga K D) m) (some (some (.ref (ma K (ga K E) m)))) && (decide (PySem.W.typeIn K (.ref (ma K (ga K E) m)) = some (.type "function")) && (PySem.W.fnIn K (ma K (ga K E) m) && eqO (PySem.W.nsIn K PySem.cStatics "thirdparty.any") (some none))))
def fndB (C m : Str) (v : Value) (K : PySem.W.Frag) : Bool := eqO (PySem.W.findIn K (.ref (ga K C)) m) (some (some v))
def ownB (C m : Str) (K : PySem.W.Frag) : Bool := eqO (PySem.W.findIn K (.ref (ga K C)) m) (some (some (.ref (ma K (ga K C) m))))
def oclB (K : PySem.W.Frag) : Bool := eqO (PySem.W.specialIn K (.builtin "object.__class__") "__get__") (some (some (.builtin "getset_descriptor.__get__"))) && decide (PySem.W.takesIn K (.builtin "object.__class__") = some true)
def kitB (C : Str) (b : Bool) (K : PySem.W.Frag) : Bool := decide (PySem.W.kitOne K (.ref (ga K "TooMany")) (.ref (ga K C)) = some b)

def dd_0 : DefD := ⟨("bits", none), "bits", "bits", defArgs sBits, defBody sBits, defScope sBits, [], []⟩
def dd_1 : DefD := ⟨("mask_of", none), "mask_of", "mask_of", defArgs sMaskOf, defBody sMaskOf, defScope sMaskOf, [], []⟩
def dd_2 : DefD := ⟨("masks_of", none), "masks_of", "masks_of", defArgs sMasksOf, defBody sMasksOf, defScope sMasksOf, [], []⟩
def dd_3 : DefD := ⟨("identity_masks", none), "identity_masks", "identity_masks", defArgs sIdentityMasks, defBody sIdentityMasks, defScope sIdentityMasks, [], []⟩
def dd_4 : DefD := ⟨("image", none), "image", "image", defArgs sImage, defBody sImage, defScope sImage, [], []⟩
def dd_5 : DefD := ⟨("product", none), "product", "product", defArgs sProduct, defBody sProduct, defScope sProduct, [], []⟩
def dd_6 : DefD := ⟨("commute", none), "commute", "commute", defArgs sCommute, defBody sCommute, defScope sCommute, [], []⟩
def dd_7 : DefD := ⟨("front_place", none), "front_place", "front_place", defArgs sFrontPlace, defBody sFrontPlace, defScope sFrontPlace, [], []⟩
def dd_8 : DefD := ⟨("swap_path", none), "swap_path", "swap_path", defArgs sSwapPath, defBody sSwapPath, defScope sSwapPath, [], []⟩
def dd_9 : DefD := ⟨("only", none), "only", "only", defArgs sOnly, defBody sOnly, defScope sOnly, [], []⟩
def dd_10 : DefD := ⟨("swap_clash", none), "swap_clash", "swap_clash", defArgs sSwapClash, defBody sSwapClash, defScope sSwapClash, [], []⟩
def dd_11 : DefD := ⟨("check_size", none), "check_size", "check_size", defArgs sCheckSize, defBody sCheckSize, defScope sCheckSize, [], []⟩
def dd_12 : DefD := ⟨("check_word", none), "check_word", "check_word", defArgs sCheckWord, defBody sCheckWord, defScope sCheckWord, [], []⟩
def dd_13 : DefD := ⟨("check_sizes", none), "check_sizes", "check_sizes", defArgs sCheckSizes, defBody sCheckSizes, defScope sCheckSizes, [], []⟩
def dd_14 : DefD := ⟨("table_of_masks", none), "table_of_masks", "table_of_masks", defArgs sTableOfMasks, defBody sTableOfMasks, defScope sTableOfMasks, [], []⟩
def dd_15 : DefD := ⟨("all_words", none), "all_words", "all_words", defArgs sAllWords, defBody sAllWords, defScope sAllWords, [], []⟩
def dd_16 : DefD := ⟨("check_person", none), "check_person", "check_person", defArgs sCheckPerson, defBody sCheckPerson, defScope sCheckPerson, [], []⟩
def dd_17 : DefD := ⟨("_law_box", none), "_law_box", "_law_box", defArgs sLawBox, defBody sLawBox, defScope sLawBox, [], []⟩
def dd_18 : DefD := ⟨("_law_take", none), "_law_take", "_law_take", defArgs sLawTake, defBody sLawTake, defScope sLawTake, [], []⟩
def dd_19 : DefD := ⟨("_law_letters", none), "_law_letters", "_law_letters", defArgs sLawLetters, defBody sLawLetters, defScope sLawLetters, [], []⟩
def dd_20 : DefD := ⟨("_law_words", none), "_law_words", "_law_words", defArgs sLawWords, defBody sLawWords, defScope sLawWords, [], []⟩
def dd_21 : DefD := ⟨("_law_outs", none), "_law_outs", "_law_outs", defArgs sLawOuts, defBody sLawOuts, defScope sLawOuts, [], []⟩
def dd_22 : DefD := ⟨("_law_person", none), "_law_person", "_law_person", defArgs sLawPerson, defBody sLawPerson, defScope sLawPerson, [], []⟩
def dd_23 : DefD := ⟨("_law_calm_folk", none), "_law_calm_folk", "_law_calm_folk", defArgs sLawCalmFolk, defBody sLawCalmFolk, defScope sLawCalmFolk, [], []⟩
def dd_24 : DefD := ⟨("_law_own", none), "_law_own", "_law_own", defArgs sLawOwn, defBody sLawOwn, defScope sLawOwn, [], []⟩
def dd_25 : DefD := ⟨("_law_cast", none), "_law_cast", "_law_cast", defArgs sLawCast, defBody sLawCast, defScope sLawCast, [], []⟩
def dd_26 : DefD := ⟨("_law_row", none), "_law_row", "_law_row", defArgs sLawRow, defBody sLawRow, defScope sLawRow, [], []⟩
def dd_27 : DefD := ⟨("_law_same_rows", none), "_law_same_rows", "_law_same_rows", defArgs sLawSameRows, defBody sLawSameRows, defScope sLawSameRows, [], []⟩
def dd_28 : DefD := ⟨("_law_join", none), "_law_join", "_law_join", defArgs sLawJoin, defBody sLawJoin, defScope sLawJoin, [], []⟩
def dd_29 : DefD := ⟨("_law_lot", none), "_law_lot", "_law_lot", defArgs sLawLot, defBody sLawLot, defScope sLawLot, [], []⟩
def dd_30 : DefD := ⟨("_law_single", none), "_law_single", "_law_single", defArgs sLawSingle, defBody sLawSingle, defScope sLawSingle, [], []⟩
def dd_31 : DefD := ⟨("_law_too_many", none), "_law_too_many", "_law_too_many", defArgs sLawTooMany, defBody sLawTooMany, defScope sLawTooMany, [], []⟩
def dd_32 : DefD := ⟨("_law_through", none), "_law_through", "_law_through", defArgs sLawThrough, defBody sLawThrough, defScope sLawThrough, [], []⟩
def dd_33 : DefD := ⟨("law", none), "law", "law", defArgs sLaw, defBody sLaw, defScope sLaw, [], []⟩
def dd_34 : DefD := ⟨("_law_made", none), "_law_made", "_law_made", defArgs sLawMade, defBody sLawMade, defScope sLawMade, [.int 0], []⟩
def dd_35 : DefD := ⟨("Table", some "__init__"), "__init__", "Table.__init__", defArgs sTable_Init, defBody sTable_Init, defScope sTable_Init, [], []⟩
def dd_36 : DefD := ⟨("Table", some "__eq__"), "__eq__", "Table.__eq__", defArgs sTable_Eq, defBody sTable_Eq, defScope sTable_Eq, [], []⟩
def dd_37 : DefD := ⟨("Person", some "__init__"), "__init__", "Person.__init__", defArgs sPerson_Init, defBody sPerson_Init, defScope sPerson_Init, [], []⟩
def dd_38 : DefD := ⟨("Person", some "heard"), "heard", "Person.heard", defArgs sPerson_Heard, defBody sPerson_Heard, defScope sPerson_Heard, [], []⟩
def dd_39 : DefD := ⟨("Person", some "said"), "said", "Person.said", defArgs sPerson_Said, defBody sPerson_Said, defScope sPerson_Said, [], []⟩
def dd_40 : DefD := ⟨("Cast", some "put"), "put", "Cast.put", defArgs sCast_Put, defBody sCast_Put, defScope sCast_Put, [], []⟩
def dd_41 : DefD := ⟨("Cast", some "check_letters"), "check_letters", "Cast.check_letters", defArgs sCast_CheckLetters, defBody sCast_CheckLetters, defScope sCast_CheckLetters, [], []⟩
def dd_42 : DefD := ⟨("Cast", some "letters"), "letters", "Cast.letters", defArgs sCast_Letters, defBody sCast_Letters, defScope sCast_Letters, [], []⟩
def dd_43 : DefD := ⟨("Cast", some "row_masks"), "row_masks", "Cast.row_masks", defArgs sCast_RowMasks, defBody sCast_RowMasks, defScope sCast_RowMasks, [], []⟩
def dd_44 : DefD := ⟨("Cast", some "through"), "through", "Cast.through", defArgs sCast_Through, defBody sCast_Through, defScope sCast_Through, [], []⟩
def dd_45 : DefD := ⟨("Cast", some "__getitem__"), "__getitem__", "Cast.__getitem__", defArgs sCast_Getitem, defBody sCast_Getitem, defScope sCast_Getitem, [], []⟩
def dd_46 : DefD := ⟨("Lot", some "keep"), "keep", "Lot.keep", defArgs sLot_Keep, defBody sLot_Keep, defScope sLot_Keep, [], []⟩
def dd_47 : DefD := ⟨("Lot", some "masks_after"), "masks_after", "Lot.masks_after", defArgs sLot_MasksAfter, defBody sLot_MasksAfter, defScope sLot_MasksAfter, [], []⟩
def dd_48 : DefD := ⟨("Lot", some "least"), "least", "Lot.least", defArgs sLot_Least, defBody sLot_Least, defScope sLot_Least, [], []⟩
def dd_49 : DefD := ⟨("Cast", some "__init__"), "__init__", "Cast.__init__", defArgs sCast_Init, defBody sCast_Init, defScope sCast_Init, [], []⟩
def dd_50 : DefD := ⟨("Lot", some "__init__"), "__init__", "Lot.__init__", defArgs sLot_Init, defBody sLot_Init, defScope sLot_Init, [], [("most", .int 400)]⟩
def xd_0 : XD := ⟨gT, "table", "Person.table", sPerson_Table, []⟩
def xd_1 : XD := ⟨fun K => ma K (ga K "Knower") "__init__", "__init__", "Knower.__init__", sKnower_Init, ["__class__"]⟩
def xd_2 : XD := ⟨fun K => ma K (ga K "Knower") "said", "said", "Knower.said", sKnower_Said, ["__class__"]⟩
def xd_3 : XD := ⟨fun K => ma K (ga K "Doubter") "said", "said", "Doubter.said", sDoubter_Said, ["__class__"]⟩
def xd_4 : XD := ⟨fun K => ma K (ga K "KnowingDoubter") "said", "said", "KnowingDoubter.said", sKnowingDoubter_Said, ["__class__"]⟩
def xd_5 : XD := ⟨fun K => ma K (ga K "TooMany") "__init__", "__init__", "TooMany.__init__", sTooMany_Init, ["__class__"]⟩
def faM0 : List Fa := [.glo "bits", .glo "mask_of", .glo "masks_of", .glo "identity_masks", .glo "image", .glo "product", .glo "commute", .glo "front_place", .glo "swap_path", .glo "only", .glo "swap_clash", .glo "check_size", .glo "check_word", .glo "check_sizes", .glo "table_of_masks", .glo "all_words", .glo "check_person", .glo "_law_box", .glo "_law_take", .glo "_law_letters", .glo "_law_words", .glo "_law_outs", .glo "_law_person", .glo "_law_calm_folk", .glo "_law_own", .glo "_law_cast", .glo "_law_row", .glo "_law_same_rows", .glo "_law_join", .glo "_law_lot"]
def faM1 : List Fa := [.glo "_law_single", .glo "_law_too_many", .glo "_law_through", .glo "law", .glo "_law_made", .glo "Table", .glo "Person", .glo "Knower", .glo "Doubter", .glo "KnowingDoubter", .glo "Cast", .glo "Lot", .glo "BadSize", .glo "BadTable", .glo "UnknownWord", .glo "SizeMismatch", .glo "BadCount", .glo "BadPerson", .glo "BadLetter", .glo "UnknownPerson", .glo "TooMany", .glo "BadPattern", .glo "SameWord", .glo "UnknownClue", .glo "BadPlace", .glo "TooLong", .glo "Melted", .glo "NothingToUndo", .glo "NothingToRedo", .glo "Refused"]
def faM2 : List Fa := [.glo "BadLine", .glo "MurmurError", .free "len", .free "range", .free "tuple", .free "list", .free "int", .free "abs", .free "str", .free "sorted", .free "max", .free "enumerate", .free "isinstance", .free "super", .free "ValueError", .int "GREATEST_SIZE" 6, .int "MOST_PEOPLE" 8, .str "LETTERS" "abcdefghijklmnopqrstuvwxyz", .cls "Table", .cls "Person", .cls "Knower", .cls "Doubter", .cls "KnowingDoubter", .cls "Cast", .cls "Lot", .noat "Table" "size", .noat "Table" "masks", .noat "Table" "cells", .noat "Person" "size", .noat "Person" "ears"]
def faM3 : List Fa := [.noat "Person" "mouths", .noat "Person" "sure_words", .noat "Knower" "size", .noat "Knower" "ears", .noat "Knower" "mouths", .noat "Knower" "sure_words", .noat "Doubter" "size", .noat "Doubter" "ears", .noat "Doubter" "mouths", .noat "Doubter" "sure_words", .noat "KnowingDoubter" "size", .noat "KnowingDoubter" "ears", .noat "KnowingDoubter" "mouths", .noat "KnowingDoubter" "sure_words", .noat "Cast" "size", .noat "Cast" "folk", .noat "Cast" "roster", .noat "Lot" "steps", .noat "Lot" "start", .noat "Lot" "called", .noat "Lot" "in_order", .meth "Person" "heard", .meth "Person" "said", .meth "Knower" "heard", .meth "Knower" "said", .meth "Doubter" "heard", .meth "Doubter" "said", .meth "KnowingDoubter" "heard", .meth "KnowingDoubter" "said", .meth "Cast" "put"]
def faM4 : List Fa := [.meth "Cast" "check_letters", .meth "Cast" "letters", .meth "Cast" "row_masks", .meth "Cast" "through", .meth "Lot" "keep", .meth "Lot" "masks_after", .meth "Lot" "least", .mkr "Table", .mkr "Person", .mkr "Knower", .mkr "Doubter", .mkr "KnowingDoubter", .mkr "Cast", .mkr "Lot"]
def faM : List Fa := faM0 ++ (faM1 ++ (faM2 ++ (faM3 ++ (faM4))))
def fnM_0 : List DefD := [dd_0, dd_1, dd_2, dd_3, dd_4, dd_5, dd_6, dd_7, dd_8, dd_9, dd_10, dd_11, dd_12, dd_13, dd_14, dd_15, dd_16, dd_17, dd_18, dd_19, dd_20, dd_21, dd_22, dd_23, dd_24, dd_25, dd_26, dd_27, dd_28, dd_29]
def fnM_1 : List DefD := [dd_30, dd_31, dd_32, dd_33, dd_34, dd_35, dd_36, dd_37, dd_38, dd_39, dd_40, dd_41, dd_42, dd_43, dd_44, dd_45, dd_46, dd_47, dd_48, dd_49, dd_50]
def fnM_ : List DefD := fnM_0 ++ (fnM_1)
def exM0 : List (PySem.W.Frag → Bool) := [fun K => decide (ma K (ga K "Knower") "heard" = ma K (ga K "Person") "heard"), fun K => decide (ma K (ga K "Doubter") "heard" = ma K (ga K "Person") "heard"), fun K => decide (ma K (ga K "KnowingDoubter") "heard" = ma K (ga K "Person") "heard"), fun K => decide (ma K (ga K "Doubter") "__init__" = ma K (ga K "Person") "__init__"), fun K => decide (ma K (ga K "KnowingDoubter") "__init__" = ma K (ga K "Knower") "__init__"), propB "Person", propB "Knower", propB "Doubter", propB "KnowingDoubter", fun K => plB K (gT K) "Person.table", fun K => spB K (ma K (ga K "Knower") "__init__") (ga K "Knower") "Knower.__init__", fun K => spB K (ma K (ga K "Knower") "said") (ga K "Knower") "Knower.said", fun K => spB K (ma K (ga K "Doubter") "said") (ga K "Doubter") "Doubter.said", fun K => spB K (ma K (ga K "KnowingDoubter") "said") (ga K "KnowingDoubter") "KnowingDoubter.said", fun K => spB K (ma K (ga K "TooMany") "__init__") (ga K "TooMany") "TooMany.__init__", supB "Knower" "Knower" "__init__" "Person", supB "KnowingDoubter" "Knower" "__init__" "Person", supB "Knower" "Knower" "said" "Person", supB "Doubter" "Doubter" "said" "Person", supB "KnowingDoubter" "KnowingDoubter" "said" "Knower"]
def exM1 : List (PySem.W.Frag → Bool) := [supB "KnowingDoubter" "Knower" "said" "Doubter", supB "KnowingDoubter" "Doubter" "said" "Person", ownB "Cast" "__getitem__", fun K => PySem.W.fnIn K (ma K (ga K "Cast") "__getitem__"), fun K => PySem.W.isFn K (.ref (ma K (ga K "Cast") "__getitem__")), ownB "Table" "__eq__", fndB "Table" "__ne__" (.builtin "object.__ne__"), fun K => PySem.W.isFn K (.ref (ma K (ga K "Table") "__eq__")), fun K => decide (PySem.W.mroIn K (ga K "Table") (.type "object") = some true), fndB "Table" "__class__" (.builtin "object.__class__"), oclB, fun K => decide (PySem.W.kitOne K (.ref (ga K "Table")) (.ref (ga K "Table")) = some true), fun K => oxB K (ga K "TooMany"), fndB "TooMany" "__setattr__" (.builtin "object.__setattr__"), fun K => decide (PySem.W.subIn K (.ref (ga K "TooMany")) (.type "BaseException") = some true), fun K => decide (PySem.W.typeIn K (.ref (ga K "TooMany")) = some (.type "type")), fun K => PySem.W.keepIn K (.ref (ga K "TooMany")), fun K => decide (PySem.W.mroIn K (ga K "TooMany") (.ref (ga K "TooMany")) = some true), fun K => eqO (PySem.W.ks_superIn K (ga K "TooMany") (ga K "TooMany") "__init__") (some (some (.builtin "ValueError.__init__"))), fun K => decide (PySem.W.mroIn K (ga K "TooMany") (.type "ValueError") = some true)]
def exM2 : List (PySem.W.Frag → Bool) := [fun K => eqO (PySem.W.nsIn K PySem.cStatics "thirdparty.any") (some none), fun K => eqO (PySem.W.findIn K (.ref (ga K "TooMany")) "limit") (some none), ownB "TooMany" "__init__", fun K => decide (PySem.W.typeIn K (.ref (ma K (ga K "TooMany") "__init__")) = some (.type "function")), fndB "TooMany" "__getattribute__" (.builtin "BaseException.__getattribute__"), fun K => eqO (PySem.W.findIn K (.ref (ga K "TooMany")) "__getattr__") (some none), fun K => PySem.W.hasDictIn K (ga K "TooMany"), fndB "TooMany" "__class__" (.builtin "object.__class__"), fun K => decide (PySem.W.mroIn K (ga K "TooMany") (.type "object") = some true), fun K => decide (PySem.W.exmOne K (.ref (ga K "TooMany")) (.ref (ga K "TooMany")) = some true), fun K => decide (PySem.W.kitOne K (.ref (ga K "TooMany")) (.type "ValueError") = some true), kitB "BadSize" false, kitB "BadTable" false, kitB "UnknownWord" false, kitB "SizeMismatch" false, kitB "BadCount" false, kitB "BadPerson" false, kitB "BadLetter" false, kitB "UnknownPerson" false, kitB "BadPattern" false]
def exM3 : List (PySem.W.Frag → Bool) := [kitB "SameWord" false, kitB "UnknownClue" false, kitB "BadPlace" false, kitB "TooLong" false, kitB "Melted" false, kitB "NothingToUndo" false, kitB "NothingToRedo" false, kitB "Refused" false, kitB "BadLine" false, kitB "TooMany" true, kitB "MurmurError" true]
def exM : List (PySem.W.Frag → Bool) := exM0 ++ (exM1 ++ (exM2 ++ (exM3)))
def xsM0 : List XD := [xd_0, xd_1, xd_2, xd_3, xd_4, xd_5]
def xsM : List XD := xsM0
end Mz
namespace Mz
open PySem PySem.Spec PyProof.Rows L2 He
/-! ### the run of the top -/
abbrev rowM : PySem.W.OpenRow := PySem.W.OpenLaw.row PySem.Challenge.rw_murmurline_k78_whole_swapped_rows_alike
abbrev hkM : PySem.W.Hook := hookM faM fnM_ exM xsM
def obM (s : PySem.W.SharedT) : AlM := obsM faM fnM_ exM xsM (HandSHeadRun.getT s)
theorem obM_eq (s : PySem.W.SharedT) : obM s = hkM.obs s.abs := obsM_eq (HandSHeadRun.getT_eq s)
def nam0 : List PySem.Str := List.map PySem.Str.ofString ["_wall", "MurmurError", "BadSize", "BadTable", "UnknownWord", "SizeMismatch", "BadCount", "BadPerson", "BadLetter", "UnknownPerson", "TooMany", "BadPattern", "SameWord", "UnknownClue", "BadPlace", "TooLong", "Melted", "NothingToUndo", "NothingToRedo", "Refused", "BadLine", "bits", "mask_of", "masks_of", "identity_masks", "image", "product", "converse", "greatest_behind", "greatest_ahead", "commute", "front_place", "swap_path", "only", "swap_clash"]
def nam1 : List PySem.Str := List.map PySem.Str.ofString ["GREATEST_SIZE", "check_size", "check_word", "check_words", "check_sizes", "written", "table_of_masks", "Table", "product_inside", "all_words", "check_person", "Person", "Knower", "Doubter", "KnowingDoubter", "LETTERS", "MOST_PEOPLE", "Cast", "MOST_TABLES", "Lot", "_law_box", "_law_take", "_law_letters", "_law_words", "_law_outs", "_law_person", "_law_calm_folk", "_law_own", "_law_made", "_law_cast", "_law_row", "_law_same_rows", "_law_join", "_law_lot", "_law_single"]
def nam2 : List PySem.Str := List.map PySem.Str.ofString ["_law_too_many", "_law_through"]
def namesM : List Str := nam0 ++ (nam1 ++ nam2)
noncomputable abbrev endM (w : World) (os : OsState) : Option PySem.W.SharedT := HandSHeadRun.endF (HandSHeadRun.stepQ (HandSHeadRun.denQ HandSHeadRun.tabQ) rowM.prog w) 20000 rowM.prog w os
theorem run_join {α β γ δ : Type} {o : Option α} {f : α → β} {g : α → γ} {h : α → δ} {b : β} {c : γ} {d : δ} (h1 : o.map (fun s => (f s, g s)) = some (b, c)) (h2 : o.map h = some d) : o.map (fun s => (f s, g s, h s)) = some (b, c, d) := by
  cases o with
  | none => cases h1
  | some x =>
    obtain ⟨h3, h4⟩ := Prod.mk.inj (Option.some.inj (show some (f x, g x) = some (b, c) from h1))
    have h5 := Option.some.inj (show some (h x) = some d from h2)
    show some (f x, g x, h x) = _
    rw [h3, h4, h5]
theorem runA (w : World) (os : OsState) : (endM w os).map (fun s => (HandSHeadRun.looksF rowM.prog (PySem.W.boot_heap w.params) s.abs, HandSHeadRun.seenQ (PySem.W.view rowM.prog [80]) namesM (importedModules rowM.prog.main.body) (fun s => PySem.W.xlAt (PySem.W.view rowM.prog [80]) [] s && PySem.W.recOk rowM.toRowW.records s) s.abs)) = some (true, PySem.W.openGood (PySem.W.view rowM.prog [80]) namesM) := by kernel_rfl
theorem runB (w : World) (os : OsState) : (endM w os).map obM = some (hkM.val w) := by kernel_rfl
theorem runM (w : World) : HandSHeadRun.RunEq rowM (PySem.W.view rowM.prog [80]) hkM obM 20000 namesM w := by
  intro os
  have h1 := runA w os
  have h2 := runB w os
  revert h1 h2
  unfold endM
  generalize HandSHeadRun.endF (HandSHeadRun.stepQ (HandSHeadRun.denQ HandSHeadRun.tabQ) rowM.prog w) 20000 rowM.prog w os = o
  intro h1 h2
  exact run_join h1 h2
end Mz
namespace Mz
open PySem PySem.Spec PyProof.Rows L2 He C8
section
variable {P : Program} {w : World} {K : PySem.W.Frag} {mg : Str → Option Value} {base : Heap}
/-- a global def keeps its promise, by its body -/
theorem calD {x : Str} {st : Stmt} {N ps : List Str} {k : Nat} {sp : Sp} (F : FnP K x st [] (ga K x)) (g : mg x = some (.ref (ga K x))) (S : FnScope N ps (defScope st))
    (hb : ∀ (kV doc pm : Value) (an : Option Addr) (cdv ct : Value) (us : List Value), us.length = ps.length → bindArgs (PySem.W.fnOf x x (defArgs st) (defBody st) (defScope st) .none kV doc pm an cdv ct) ⟨us, []⟩ = pure (ps.zip us))
    (len : ∀ vs H Q E, sp vs H Q E → vs.length = ps.length)
    (hbody : ∀ (cdv : Value) (A : Around) (outer : List Env) (s : Shared) (H : Hp) (vs : List V) (Q : VK) (E : XK), Room k (A.deeper (envOfC x (defScope st) s.heap.objs.size (ga K x) cdv)) → sp vs H Q E →
      ∃ t, PSs (cxOf C8.CX0 P w K mg base N x (defScope st) (ga K x) cdv A outer s H E).nox (defBody st) t ∧ t { nx := fun _ H' => Q .non H', rt := Q } (start N vs) H) : Cal P w K mg base (k + 1) x sp [] := by
  obtain ⟨fd, F⟩ := F
  refine ⟨_, fd, ps, [], F.ok S len fun cdv A outer s H vs Q E hr h => ?_, g, F.kp, F.bindsN hb, .nil⟩
  obtain ⟨t, h1, h2⟩ := hbody cdv A outer s H vs Q E hr h
  exact ⟨t, h1.nox, h2⟩
/-- a method of one class of its own, by its body -/
theorem fnM {x qual : Str} {st : Stmt} {f : Addr} {N ps : List Str} {k : Nat} {sp : Sp} (F : FnM K x qual st [] f) (S : FnScope N ps (defScope st))
    (hb : ∀ (kV doc pm : Value) (an : Option Addr) (cdv ct : Value) (us : List Value), us.length = ps.length → bindArgs (PySem.W.fnOf x qual (defArgs st) (defBody st) (defScope st) .none kV doc pm an cdv ct) ⟨us, []⟩ = pure (ps.zip us))
    (len : ∀ vs H Q E, sp vs H Q E → vs.length = ps.length)
    (hbody : ∀ (cdv : Value) (A : Around) (outer : List Env) (s : Shared) (H : Hp) (vs : List V) (Q : VK) (E : XK), Room k (A.deeper (envOfC qual (defScope st) s.heap.objs.size f cdv)) → sp vs H Q E →
      ∃ t, PSs (cxOf C8.CX0 P w K mg base N qual (defScope st) f cdv A outer s H E).nox (defBody st) t ∧ t { nx := fun _ H' => Q .non H', rt := Q } (start N vs) H) : ∃ fd, FnOk P w K mg base C8.CX0 (k + 1) f fd ps sp ∧ Binds K fd ps [] := by
  obtain ⟨fd, F⟩ := F
  refine ⟨fd, F.ok S len fun cdv A outer s H vs Q E hr h => ?_, F.bindsN hb⟩
  obtain ⟨t, h1, h2⟩ := hbody cdv A outer s H vs Q E hr h
  exact ⟨t, h1.nox, h2⟩
end
/-! ### heaps -/
theorem Same.upd {H H' : Hp} {p : Addr} {o : HO} (e : Same H H') (h : H' p = none) : Same H (L2.upd H' p o) := fun b u q => by
  have q' := e b u q
  rw [upd_ne (ne_of_none q' h)]
  exact q'
/-- an object that stands from the start may be changed if it is one of ours -/
theorem Same.updn {H H' : Hp} {p : Addr} {o : HO} (e : Same H H') (h : H p = none) : Same H (L2.upd H' p o) := fun b u q => by
  have nb : b ≠ p := fun z => by
    rw [z, h] at q
    cases q
  rw [upd_ne nb]
  exact e b u q
theorem Same.seqT {K : PySem.W.Frag} {H H' : Hp} {a : Addr} {xs : List V} (e : Same H H') (h : SqT K H a xs) : SqT K H' a xs := by
  rcases h with (h | ⟨o, h⟩) | h
  · exact .inl (.inl (e _ _ h))
  · exact .inl (.inr ⟨o, e _ _ h⟩)
  · exact .inr h
/-- a natural number as a value -/
abbrev nV (m : Nat) : V := .int ((m : Nat) : Int)
/-! ### bits -/
theorem bit_and1 : ∀ a : _root_.Fin 8, Builtin.bitAnd ((a.1 : Nat) : Int) 1 = (((a.1 % 2 : Nat)) : Int) := by decide +kernel
theorem bit_or8 : ∀ a b : _root_.Fin 8, Builtin.bitOr ((a.1 : Nat) : Int) ((b.1 : Nat) : Int) = (((a.1 ||| b.1 : Nat)) : Int) := by decide +kernel
end Mz
namespace Mz
open PySem PySem.Spec PyProof.Rows L2 He C8
/-- a new object is handed back, all that was tracked stands as before -/
def RN (H : Hp) (o : HO) (Q : VK) : Prop := ∀ H' p, Same H H' → H p = none → H' p = some o → Q (.ref p) H'
def ntup (A : List Nat) : HO := .tup (A.map nV)
def nlst (A : List Nat) : HO := .lst (A.map nV)
theorem fin8 {p : Nat → Prop} (h : ∀ a : _root_.Fin 8, p a.1) {m : Nat} (hm : m < 8) : p m := h ⟨m, hm⟩
theorem bits_end : ∀ m : _root_.Fin 8, ∀ k : _root_.Fin 4, m.1 / 2 ^ k.1 = 0 → (List.range k.1).filter (fun j => m.1.testBit j) = Mu.bitsL m.1 := by decide +kernel
theorem bits_go : ∀ m : _root_.Fin 8, ∀ k : _root_.Fin 4, 0 < m.1 / 2 ^ k.1 → k.1 < 3 := by decide +kernel
theorem bits_odd : ∀ m : _root_.Fin 8, ∀ k : _root_.Fin 4, decide ((m.1 / 2 ^ k.1) % 2 = 1) = m.1.testBit k.1 := by decide +kernel
theorem bits_lt : ∀ m : _root_.Fin 8, ∀ k : _root_.Fin 4, m.1 / 2 ^ k.1 < 8 := by decide +kernel
def spBits : Sp := fun vs H Q _ => ∃ m : Nat, vs = [nV m] ∧ m < 8 ∧ RN H (nlst (Mu.bitsL m)) Q
theorem scBits : FnScope ["mask", "found", "place"] ["mask"] (defScope sBits) := fnScope_by (by decide +kernel)
section
variable {P : Program} {w : World} {K : PySem.W.Frag} {mg : Str → Option Value} {base : Heap}
theorem c_bits (T : Tx K mg) : Cal P w K mg base 1 "bits" spBits [] := by
  refine calD T.d_bits T.g_bits scBits (fun _ _ _ _ _ _ us hl => match us, hl with | [_], _ => rfl) (fun vs H Q E h => ?_) (fun cdv A outer s H vs Q E hr h => ?_)
  · obtain ⟨m, rfl, _⟩ := h
    rfl
  · obtain ⟨m, rfl, hm, k⟩ := h
    refine ⟨_, pss_cons (ps_set (i := 1) scBits.nd rfl (Or.inl rfl) (pe_lst pa_nil)) (pss_cons (ps_set (i := 2) scBits.nd rfl (Or.inl rfl) pe_int)
      (pss_cons (ps_while PassesOwn.never (pt_cmpR op_gt (pv 0) pe_int (nomark _))
        (pss_cons (ps_if (pt_cmpR op_eq (pe_op op_and (pv 0) pe_int) pe_int (nomark _)) (pss_one (ps_expr (pe_bm PySem.F.plainAttrs_list PySem.F.slot_list_append PySem.F.type_list_append mt_append (pv 1) (pa_cons (pv 2) pa_nil)))) pss_nil)
          (pss_cons (ps_set (i := 0) scBits.nd rfl (Or.inl rfl) (pe_op op_shr (pv 0) pe_int)) (pss_one (ps_set (i := 2) scBits.nd rfl (Or.inl rfl) (pe_op op_add (pv 2) pe_int))))))
      (pss_one (ps_ret (pv 1))))), ?_⟩
    refine ⟨Nat.zero_le _, fun l hl => ?_⟩
    refine while_by (fun σ H' => ∃ i : Nat, i ≤ 3 ∧ σ = [some (nV (m / 2 ^ i)), some (.ref l), some (nV i)] ∧ Same H H' ∧ H' l = some (nlst ((List.range i).filter fun j => m.testBit j)))
      (fun σ _ => match σ with | some (.int x) :: _ => x.toNat | _ => 0) ⟨0, by decide, by simp; rfl, Same.upd (Same.refl H) hl, upd_same⟩ ?_ ?_
    · rintro σ H' ⟨i, hi, rfl, hs, hL⟩
      have hi4 : i < 4 := by omega
      refine ⟨_, rfl, _, _, rfl, rfl, _, rfl, ite2 (fun h => ?_) (fun h => ?_)⟩
      · have hpos : 0 < m / 2 ^ i := by
          have := of_decide_eq_true h
          omega
        have hi3 : i < 3 := bits_go ⟨m, hm⟩ ⟨i, hi4⟩ hpos
        have hodd : decide ((m / 2 ^ i) % 2 = 1) = m.testBit i := bits_odd ⟨m, hm⟩ ⟨i, hi4⟩
        have hlt : m / 2 ^ i < 8 := bits_lt ⟨m, hm⟩ ⟨i, hi4⟩
        have hand := fin8 (p := fun x => Builtin.bitAnd ((x : Nat) : Int) 1 = (((x % 2 : Nat)) : Int)) bit_and1 hlt
        have hrange : (List.range (i + 1)).filter (fun j => m.testBit j) = (List.range i).filter (fun j => m.testBit j) ++ (if m.testBit i = true then [i] else []) := by
          rw [List.range_succ, List.filter_append, List.filter_cons]
          rfl
        have hdiv : ((m / 2 ^ i : Nat) : Int) / 2 ^ (1 : Int).toNat = ((m / 2 ^ (i + 1) : Nat) : Int) := by
          rw [Nat.pow_succ, ← Nat.div_div_eq_div_mul]
          rfl
        have hmeas : m / 2 ^ (i + 1) < m / 2 ^ i := by
          rw [Nat.pow_succ, ← Nat.div_div_eq_div_mul]
          omega
        refine ⟨_, rfl, _, _, rfl, rfl, rfl, _, rfl, ?_⟩
        have tail : ∀ H2 : Hp, Same H H2 → H2 l = some (nlst ((List.range (i + 1)).filter fun j => m.testBit j)) →
            tSeq (tAsg (tOp (rI (fun x j => 0 ≤ j) fun i j => V.int (i / 2 ^ j.toNat)) (tVar 0) (tC (V.int 1))) (gName 0)) (tAsg (tOp (rI0 fun i j => V.int (i + j)) (tVar 2) (tC (V.int 1))) (gName 2))
              { nx := fun σ' H' => (∃ i, i ≤ 3 ∧ σ' = [some (nV (m / 2 ^ i)), some (V.ref l), some (nV i)] ∧ Same H H' ∧ H' l = some (nlst (List.filter (fun j => m.testBit j) (List.range i)))) ∧ (match σ' with
                | some (V.int x) :: tail => x.toNat
                | x => 0) < ((m / 2 ^ i : Nat) : Int).toNat, rt := Q } [some (nV (m / 2 ^ i)), some (V.ref l), some (nV i)] H2 := by
          intro H2 s2 L2
          refine ⟨_, rfl, _, _, rfl, rfl, by show (0 : Int) ≤ 1; decide, _, rfl, _, _, rfl, rfl, ⟨i + 1, by omega, ?_, s2, L2⟩, ?_⟩
          · show [some (V.int (((m / 2 ^ i : Nat) : Int) / 2 ^ (1 : Int).toNat)), some (.ref l), some (V.int ((i : Int) + 1))] = _
            rw [hdiv]
            rfl
          · show (((m / 2 ^ i : Nat) : Int) / 2 ^ (1 : Int).toNat).toNat < _
            rw [hdiv]
            exact hmeas
        rw [dec_int, hand]
        cases hb : m.testBit i with
        | true =>
          rw [hb] at hodd hrange
          have h1 := of_decide_eq_true hodd
          have h1' : ((((m / 2 ^ i) % 2 : Nat) : Int) == 1) = true := by rw [h1]; rfl
          rw [h1']
          refine iteT ⟨_, rfl, Or.inl ⟨rfl, _, SqL.of hL⟩, _, rfl, l, _, _, rfl, rfl, hL, ?_, ?_⟩
          · rw [List.length_map]
            exact small1000 (Nat.le_trans (List.length_filter_le _ _) (by rw [List.length_range]; omega))
          · refine tail _ (Same.updn hs hl) ?_
            rw [upd_same, hrange, if_pos rfl]
            unfold nlst
            rw [List.map_append]
            rfl
        | false =>
          rw [hb] at hodd hrange
          have h1 := of_decide_eq_false hodd
          have h1' : ((((m / 2 ^ i) % 2 : Nat) : Int) == 1) = false := by
            rw [beq_eq_false_iff_ne]
            omega
          rw [h1']
          refine iteF (tail _ hs ?_)
          rw [hL, hrange, if_neg Bool.false_ne_true, List.append_nil]
      · have hz : m / 2 ^ i = 0 := by
          rcases Nat.eq_zero_or_pos (m / 2 ^ i) with z | z
          · exact z
          · exact absurd (decide_eq_true (show (0 : Int) < ((m / 2 ^ i : Nat) : Int) from Int.ofNat_lt.mpr z)) h
        refine ⟨_, rfl, k _ l hs hl ?_⟩
        rw [hL, bits_end ⟨m, hm⟩ ⟨i, hi4⟩ hz]
    · rintro σ H Q Q' hq ⟨v, e, i, j, e1, e2, k, e3, h⟩
      exact ⟨v, e, i, j, e1, e2, k, e3, hq _ _ h⟩
end
end Mz
namespace Mz
open PySem PySem.Spec PyProof.Rows L2 He C8
/-- small masks -/
def Sm (A : List Nat) : Prop := A.length ≤ 3 ∧ ∀ m ∈ A, m < 8
theorem Sm.rel {n : Nat} {A : List Nat} (hn : n ≤ 3) (h : Mu.Rel n A) : Sm A := ⟨by rw [h.1]; exact hn, fun m hm => Nat.lt_of_lt_of_le (h.2 m hm) (by
  have : (2 : Nat) ^ n ≤ 2 ^ 3 := Nat.pow_le_pow_right (by decide) hn
  exact this)⟩
/-- addresses with their objects -/
def Pts (H : Hp) (ls : List Addr) (os : List HO) : Prop := ls.length = os.length ∧ ∀ (i : Nat) (a : Addr) (o : HO), ls[i]? = some a → os[i]? = some o → H a = some o
theorem Pts.nil {H : Hp} : Pts H [] [] := ⟨rfl, fun i a o h _ => by simp at h⟩
theorem Pts.same {H H' : Hp} {ls : List Addr} {os : List HO} (h : Pts H ls os) (e : Same H H') : Pts H' ls os := ⟨h.1, fun i a o x y => e _ _ (h.2 i a o x y)⟩
theorem Pts.snoc {H : Hp} {ls : List Addr} {os : List HO} {a : Addr} {o : HO} (h : Pts H ls os) (e : H a = some o) : Pts H (ls ++ [a]) (os ++ [o]) := by
  refine ⟨by simp [h.1], fun i b u x y => ?_⟩
  by_cases hi : i < ls.length
  · rw [List.getElem?_append_left hi] at x
    rw [List.getElem?_append_left (by rw [← h.1]; exact hi)] at y
    exact h.2 i b u x y
  · rw [List.getElem?_append_right (by omega)] at x
    rw [List.getElem?_append_right (by rw [← h.1]; omega)] at y
    have e0 : i - ls.length = 0 := by
      rcases Nat.eq_zero_or_pos (i - ls.length) with z | z
      · exact z
      · rw [List.getElem?_eq_none (by simp; omega)] at x
        cases x
    rw [e0] at x
    rw [show i - os.length = 0 by rw [← h.1]; exact e0] at y
    cases x
    cases y
    exact e
theorem Pts.get {H : Hp} {ls : List Addr} {os : List HO} (h : Pts H ls os) {i : Nat} {o : HO} (e : os[i]? = some o) : ∃ a, ls[i]? = some a ∧ H a = some o := by
  have hi : i < ls.length := by
    rw [h.1]
    exact (List.getElem?_eq_some_iff.mp e).1
  exact ⟨ls[i], List.getElem?_eq_getElem hi, h.2 i _ o (List.getElem?_eq_getElem hi) e⟩
/-- like Pts, where one place is changed that is none of them -/
theorem Pts.upd {H : Hp} {ls : List Addr} {os : List HO} {p : Addr} {o : HO} (h : Pts H ls os) (hp : p ∉ ls) : Pts (L2.upd H p o) ls os := ⟨h.1, fun i a u x y => by
  have ne : a ≠ p := fun z => by
    rw [z] at x
    exact hp (List.mem_of_getElem? x)
  rw [upd_ne ne]
  exact h.2 i a u x y⟩
/-- a list of lists of words -/
def RowsAt (H : Hp) (l : Addr) (R : List (List Nat)) : Prop := ∃ ls : List Addr, H l = some (.lst (ls.map V.ref)) ∧ Pts H ls (R.map nlst)
theorem RowsAt.same {H H' : Hp} {l : Addr} {R : List (List Nat)} (h : RowsAt H l R) (e : Same H H') : RowsAt H' l R := by
  obtain ⟨ls, h1, h2⟩ := h
  exact ⟨ls, e _ _ h1, h2.same e⟩
theorem RN.same {H H' : Hp} {o : HO} {Q : VK} (h : RN H o Q) (e : Same H H') : RN H' o Q := fun H2 p s n x => h H2 p (e.trans s) (e.free n) x
/-- a list that grows at D, all that stood before is left -/
def PvK (H1 : Hp) (D : Addr) (R : Nat → Hp → List V → Prop) (i : Nat) (H : Hp) : Prop := ∃ acc, Same H1 H ∧ H D = some (.lst acc) ∧ R i H acc
theorem PvK.init {H1 : Hp} {D : Addr} {R : Nat → Hp → List V → Prop} (hD : H1 D = none) (h : R 0 (L2.upd H1 D (.lst [])) []) : PvK H1 D R 0 (L2.upd H1 D (.lst [])) := ⟨[], Same.upd (Same.refl _) hD, upd_same, h⟩
theorem PvK.more {H1 H4 : Hp} {D : Addr} {R : Nat → Hp → List V → Prop} {i : Nat} {acc : List V} {y : V} (hD : H1 D = none) (e : Same H1 H4) (h : H4 D = some (.lst acc)) (hl : acc.length < 1000) (r : R (i + 1) (L2.upd H4 D (.lst (acc ++ [y]))) (acc ++ [y])) :
    ∃ acc, H4 D = some (.lst acc) ∧ acc.length < sizeLine ∧ PvK H1 D R (i + 1) (L2.upd H4 D (.lst (acc ++ [y]))) := ⟨acc, h, small1000 (Nat.le_of_lt hl), _, Same.updn e hD, upd_same, r⟩
/-- the same over a walk -/
theorem lc_keep {J : It} {n : Nat} {G : Hp → Prop} {Y : Nat → Hp → V → Hp → Prop} (w : Walk J n G Y) {g : TG} {tt : TT} {te : TE} {vs : List Nat} {σ : L2.St} {H1 : Hp} {D : Addr} {Qd : Hp → Prop} (hD : H1 D = none) (R : Nat → Hp → List V → Prop) (h0 : R 0 (L2.upd H1 D (.lst [])) []) (hG : ∀ H, Same H1 H → G H)
    (hs : ∀ i x H H' acc, i < n → Same H1 H → H D = some (.lst acc) → R i H acc → Y i H x H' → g x (wipe σ vs) H' fun σ2 H2 => wipe σ2 vs = wipe σ vs ∧ tt σ2 H2 fun b H3 =>
      if b = true then te σ2 H3 fun y H4 => ∃ acc, H4 D = some (.lst acc) ∧ acc.length < sizeLine ∧ PvK H1 D R (i + 1) (L2.upd H4 D (.lst (acc ++ [y]))) else PvK H1 D R (i + 1) H3)
    (hd : ∀ H acc, Same H1 H → H D = some (.lst acc) → R n H acc → Qd H) :
    ∃ W : Nat → Nat → Hp → Prop, (∃ m, W 0 m (L2.upd H1 D (.lst []))) ∧ ∀ i m H, W i m H →
      (J.stop i H ∧ Qd H) ∨ (J.go i H ∧ ∃ Nx : Hp → Prop, (∀ H', Nx H' → ∃ m', m' < m ∧ W (i + 1) m' H') ∧ ∀ x H', J.yld i H x H' → g x (wipe σ vs) H' fun σ2 H2 => wipe σ2 vs = wipe σ vs ∧ tt σ2 H2 fun b H3 =>
        if b = true then te σ2 H3 fun y H4 => ∃ acc, H4 D = some (.lst acc) ∧ acc.length < sizeLine ∧ Nx (L2.upd H4 D (.lst (acc ++ [y]))) else Nx H3) := by
  refine lc_it w (PvK H1 D R) (PvK.init hD h0) (fun i H _ h => hG H h.choose_spec.1) (fun i x H H' hi h y => ?_) (fun H h => ?_)
  · obtain ⟨acc, h1, h2, h3⟩ := h
    exact hs i x H H' acc hi h1 h2 h3 y
  · obtain ⟨acc, h1, h2, h3⟩ := h
    exact hd H acc h1 h2 h3
section
variable {X : Cx} {p : Pos}
theorem gc_GREATEST_SIZE (T : Tx X.K X.mg) (hg : Gl X "GREATEST_SIZE" := by rfl) : PE X (.Name "GREATEST_SIZE" p) (tC (.int 6)) := pe_gc hg (T.i_GREATEST_SIZE.elim fun t h => ⟨_, h, t, rfl⟩)
theorem gc_MOST_PEOPLE (T : Tx X.K X.mg) (hg : Gl X "MOST_PEOPLE" := by rfl) : PE X (.Name "MOST_PEOPLE" p) (tC (.int 8)) := pe_gc hg (T.i_MOST_PEOPLE.elim fun t h => ⟨_, h, t, rfl⟩)
theorem gc_LETTERS (T : Tx X.K X.mg) (hg : Gl X "LETTERS" := by rfl) : PE X (.Name "LETTERS" p) (tC (.str "abcdefghijklmnopqrstuvwxyz")) := pe_gc hg (T.i_LETTERS.elim fun t h => ⟨_, h, t, rfl⟩)
theorem pe_fldK {K : PySem.W.Frag} {e : Expr} {f : Str} {ta : TE} (hK : X.K = K) (he : PE X e ta) (hb : attributeBase e f X.env (eval e X.env) = eval e X.env) : PE X (.Attribute e f p) (tFld K ta f) := by
  subst hK
  exact pe_fld he hb
theorem ix_tupK {K : PySem.W.Frag} (hK : X.K = K) : IxR X (rIxT K) := by
  subst hK
  exact ix_tup
theorem ix_listK {K : PySem.W.Frag} (hK : X.K = K) : IxR X (rIxL K) := by
  subst hK
  exact ix_list
theorem op_inK {K : PySem.W.Frag} (hK : X.K = K) : OpR X (compareOp .In) (rIn K false) := by
  subst hK
  exact op_in_seq
theorem op_notInK {K : PySem.W.Frag} (hK : X.K = K) : OpR X (compareOp .NotIn) (rIn K true) := by
  subst hK
  exact op_notIn_seq
theorem op_eqDK {K : PySem.W.Frag} (hK : X.K = K) (hu : X.A.units + 64 < cLine) : OpR X (compareOp .Eq) (rEqD K) := by
  subst hK
  exact op_eqD hu
theorem op_neDK {K : PySem.W.Frag} (hK : X.K = K) (hu : X.A.units + 64 < cLine) : OpR X (compareOp .NotEq) (rNeD K) := by
  subst hK
  exact op_neD hu
theorem call_list_ofK {K : PySem.W.Frag} (hK : X.K = K) : CallR X (.type "list") (fun xs H Q => ∃ p ys, xs = [.ref p] ∧ (SqL K H p ys ∨ SqT K H p ys) ∧ ∀ l, H l = none → Q (.ref l) (L2.upd H l (.lst ys))) := by
  subst hK
  exact call_list_of
theorem call_tuple_ofK {K : PySem.W.Frag} (hK : X.K = K) : CallR X (.type "tuple") (fun xs H Q => ∃ p ys, xs = [.ref p] ∧ ((SqL K H p ys ∧ ∀ l, H l = none → Q (.ref l) (L2.upd H l (.tup ys))) ∨ (SqT K H p ys ∧ Q (.ref p) H))) := by
  subst hK
  exact call_tuple_of
theorem call_lenK {K : PySem.W.Frag} (hK : X.K = K) : CallR X (.builtin "len") (fun xs H Q => ∃ p ys, xs = [.ref p] ∧ (SqL K H p ys ∨ SqT K H p ys) ∧ Q (.int ys.length) H) := by
  subst hK
  exact call_len_seq
end
end Mz
namespace Mz
open PySem PySem.Spec PyProof.Rows L2 He C8
def maskL (A : List Nat) : Nat := A.foldl (fun m w => m ||| 1 <<< w) 0
theorem or_step : ∀ m : _root_.Fin 8, ∀ i : _root_.Fin 3, ∀ x, (Mu.bitsL m.1)[i.1]? = some x → Builtin.bitOr ((maskL ((Mu.bitsL m.1).take i.1) : Nat) : Int) ((1 : Int) * 2 ^ ((x : Nat) : Int).toNat) = ((maskL ((Mu.bitsL m.1).take (i.1 + 1)) : Nat) : Int) := by
  have key : ∀ m : _root_.Fin 8, ∀ i : _root_.Fin 3, ∀ x : _root_.Fin 3, (Mu.bitsL m.1)[i.1]? = some x.1 → Builtin.bitOr ((maskL ((Mu.bitsL m.1).take i.1) : Nat) : Int) ((1 : Int) * 2 ^ ((x.1 : Nat) : Int).toNat) = ((maskL ((Mu.bitsL m.1).take (i.1 + 1)) : Nat) : Int) := by decide +kernel
  intro m i x h
  have hx : x < 3 := ((Mu.mem_bitsL _ _).mp (List.mem_of_getElem? h)).1
  exact key m i ⟨x, hx⟩ h
theorem maskL_bits : ∀ m : _root_.Fin 8, maskL (Mu.bitsL m.1) = m.1 := by decide +kernel
theorem bits_len : ∀ m : _root_.Fin 8, (Mu.bitsL m.1).length ≤ 3 := by decide +kernel
theorem nlst_get {A : List Nat} {i : Nat} {x : V} (h : (A.map nV)[i]? = some x) : ∃ m, A[i]? = some m ∧ x = nV m := by
  rw [List.getElem?_map] at h
  cases e : A[i]? with
  | none => rw [e] at h; cases h
  | some m => rw [e] at h; exact ⟨m, rfl, (Option.some.inj h).symm⟩
def spMaskOf : Sp := fun vs H Q _ => ∃ l m, vs = [.ref l] ∧ H l = some (nlst (Mu.bitsL m)) ∧ m < 8 ∧ Q (nV m) H
def spMasksOf : Sp := fun vs H Q _ => ∃ l M, vs = [.ref l] ∧ RowsAt H l (M.map Mu.bitsL) ∧ Sm M ∧ RN H (ntup M) Q
def spIdentityMasks : Sp := fun vs H Q _ => ∃ n : Nat, vs = [nV n] ∧ n ≤ 3 ∧ RN H (ntup (Mu.idm n)) Q
def spImage : Sp := fun vs H Q _ => ∃ t M w, vs = [.ref t, nV w] ∧ H t = some (ntup M) ∧ Sm M ∧ w < 8 ∧ Q (nV (Mu.img M w)) H
def spProduct : Sp := fun vs H Q _ => ∃ a b A B, vs = [.ref a, .ref b] ∧ H a = some (ntup A) ∧ H b = some (ntup B) ∧ Sm A ∧ Sm B ∧ RN H (ntup (Mu.prod A B)) Q
section
variable {P : Program} {w : World} {K : PySem.W.Frag} {mg : Str → Option Value} {base : Heap}
theorem scMaskOf : FnScope ["words", "mask", "word"] ["words"] (defScope sMaskOf) := fnScope_by (by decide +kernel)
theorem c_mask_of (T : Tx K mg) : Cal P w K mg base 1 "mask_of" spMaskOf [] := by
  refine calD T.d_mask_of T.g_mask_of scMaskOf (fun _ _ _ _ _ _ us hl => match us, hl with | [_], _ => rfl) (fun vs H Q E h => ?_) (fun cdv A outer s H vs Q E hr h => ?_)
  · obtain ⟨_, _, rfl, _⟩ := h
    rfl
  · obtain ⟨l, m, rfl, hl, hm, k⟩ := h
    have hu := hu_of hr
    refine ⟨_, (pss_cons (ps_set (i := 1) scMaskOf.nd rfl (Or.inl rfl) pe_int)
      (pss_cons (ps_for PassesOwn.never rfl (pi_list (pv 0)) (pg_name (i := 2) scMaskOf.nd rfl (Or.inl rfl))
        (pss_one (ps_set (i := 1) scMaskOf.nd rfl (Or.inl rfl) (pe_op op_or (pv 1) (pe_op op_shl pe_int (pv 2))))))
      (pss_one (ps_ret (pv 1))))), ?_⟩
    refine ⟨_, rfl, l, rfl, ⟨_, SqL.of hl⟩, for_it (walk_list (xs := (Mu.bitsL m).map nV)) (fun i σ H' => H' = H ∧ ∃ z, σ = [some (.ref l), some (nV (maskL ((Mu.bitsL m).take i))), z]) ⟨rfl, _, rfl⟩ (fun i σ H' _ h => by rw [h.1]; exact SqL.of hl) ?_ ?_⟩
    · rintro i x σ H1 H2 hi ⟨rfl, z, rfl⟩ ⟨rfl, hx⟩
      obtain ⟨y, hy, rfl⟩ := nlst_get hx
      have hi3 : i < 3 := by
        have := bits_len ⟨m, hm⟩
        rw [List.length_map] at hi
        exact Nat.lt_of_lt_of_le hi this
      refine ⟨_, rfl, _, rfl, _, _, rfl, rfl, ⟨Int.natCast_nonneg _, ?_, by decide⟩, _, _, rfl, rfl, rfl, some (nV y), ?_⟩
      · have : y < 3 := ((Mu.mem_bitsL _ _).mp (List.mem_of_getElem? hy)).1
        omega
      · show [some (V.ref l), some (V.int _), _] = [some (V.ref l), some (V.int _), _]
        rw [or_step ⟨m, hm⟩ ⟨i, hi3⟩ y hy]
    · rintro σ H' ⟨rfl, z, rfl⟩
      refine ⟨_, rfl, ?_⟩
      rw [List.length_map, List.take_length, maskL_bits ⟨m, hm⟩]
      exact k
theorem scMasksOf : FnScope ["rows", "row"] ["rows"] (defScope sMasksOf) := fnScope_by (by decide +kernel)
theorem c_masks_of (T : Tx K mg) : Cal P w K mg base 2 "masks_of" spMasksOf [] := by
  refine calD T.d_masks_of T.g_masks_of scMasksOf (fun _ _ _ _ _ _ us hl => match us, hl with | [_], _ => rfl) (fun vs H Q E h => ?_) (fun cdv A outer s H vs Q E hr h => ?_)
  · obtain ⟨_, _, rfl, _⟩ := h
    rfl
  · obtain ⟨l, M, rfl, ⟨ls, hl, hp⟩, hM, k⟩ := h
    have hu := hu_of hr
    refine ⟨_, (pss_one (ps_ret (pe_callTy (call_tuple_ofK (K := K) rfl) (by rfl) T.z_tuple (by decide +kernel) (pa_cons (pe_lc (own := [("row", 1)]) (g := gName 1) (tt := tYes)  (rfl) scMasksOf.nd (pi_list (pv 0)) (blkOk_by (own := [("row", 1)]) (N := ["rows", "row"]) (sc := defScope sMasksOf) (by decide +kernel)) (fun _ _ _ _ _ => pg_name (i := 1) scMasksOf.nd rfl (Or.inl rfl)) (fun _ _ _ _ _ => pts_nil) (fun _ _ _ _ _ => (pe_c (c_mask_of T) hr (by decide) rfl (pa_cons (pv 1) pa_nil)))) pa_nil)))), ?_⟩
    refine ⟨_, rfl, l, rfl, ⟨_, SqL.of hl⟩, fun D hD => ?_⟩
    have hlen : ls.length = M.length := by
      have := hp.1
      simp at this
      exact this
    refine lc_keep (walk_list (xs := ls.map V.ref)) hD (fun i _ acc => acc = (M.take i).map nV) rfl (fun H' e => SqL.of (e _ _ hl)) ?_ ?_
    · rintro i x H1 H2 acc hi e hD1 rfl ⟨rfl, hx⟩
      rw [List.length_map] at hi
      have hiM : i < M.length := by omega
      obtain ⟨a, ha, hA⟩ := hp.get (i := i) (o := nlst (Mu.bitsL M[i])) (by simp [hiM])
      rw [List.getElem?_map, ha] at hx
      cases hx
      refine ⟨rfl, _, rfl, _, M[i], rfl, e _ _ hA, hM.2 _ (List.getElem_mem _), PvK.more hD e hD1 ?_ ?_⟩
      · rw [List.length_map]
        exact Nat.lt_of_le_of_lt (List.length_take_le _ _) (by have := hM.1; omega)
      · rw [List.take_add_one, List.getElem?_eq_getElem hiM, List.map_append]
        rfl
    · rintro H' acc e hD' rfl
      refine ⟨_, _, rfl, .inl ⟨SqL.of hD', fun p hp' => k _ p (Same.upd e hp') (e.free hp') ?_⟩⟩
      rw [upd_same, List.length_map, hlen, List.take_length]
      rfl
theorem scIdentityMasks : FnScope ["size", "word"] ["size"] (defScope sIdentityMasks) := fnScope_by (by decide +kernel)
theorem c_identity_masks (T : Tx K mg) : Cal P w K mg base 1 "identity_masks" spIdentityMasks [] := by
  refine calD T.d_identity_masks T.g_identity_masks scIdentityMasks (fun _ _ _ _ _ _ us hl => match us, hl with | [_], _ => rfl) (fun vs H Q E h => ?_) (fun cdv A outer s H vs Q E hr h => ?_)
  · obtain ⟨_, rfl, _⟩ := h
    rfl
  · obtain ⟨n, rfl, hn, k⟩ := h
    have hu := hu_of hr
    refine ⟨_, (pss_one (ps_ret (pe_callTy (call_tuple_ofK (K := K) rfl) (by rfl) T.z_tuple (by decide +kernel) (pa_cons (pe_lc (own := [("word", 1)]) (g := gName 1) (tt := tYes)  (rfl) scIdentityMasks.nd (pi_range1 rfl T.z_range (pa_cons (pv 0) pa_nil)) (blkOk_by (own := [("word", 1)]) (N := ["size", "word"]) (sc := defScope sIdentityMasks) (by decide +kernel)) (fun _ _ _ _ _ => pg_name (i := 1) scIdentityMasks.nd rfl (Or.inl rfl)) (fun _ _ _ _ _ => pts_nil) (fun _ _ _ _ _ => (pe_op op_shl pe_int (pv 1)))) pa_nil)))), ?_⟩
    refine ⟨_, rfl, _, rfl, by omega, by omega, fun D hD => ?_⟩
    refine lc_keep (walk_range (n := n)) hD (fun i _ acc => acc = (Mu.idm i).map nV) rfl (fun _ _ => trivial) ?_ ?_
    · rintro i x H1 H2 acc hi e hD1 rfl ⟨rfl, rfl⟩
      refine ⟨rfl, _, rfl, _, _, rfl, rfl, ⟨by omega, by omega, by decide⟩, PvK.more hD e hD1 ?_ ?_⟩
      · unfold Mu.idm
        simp
        omega
      · unfold Mu.idm
        rw [List.range_succ, List.map_append, List.map_append]
        congr 1
        show [V.int _] = [V.int _]
        congr 2
        simp
    · rintro H' acc e hD' rfl
      refine ⟨_, _, rfl, .inl ⟨SqL.of hD', fun p hp' => k _ p (Same.upd e hp') (e.free hp') ?_⟩⟩
      rw [upd_same]
      rfl
theorem scImage : FnScope ["masks", "words", "out", "word"] ["masks", "words"] (defScope sImage) := fnScope_by (by decide +kernel)
theorem c_image (T : Tx K mg) : Cal P w K mg base 1 "image" spImage [] := by
  refine calD T.d_image T.g_image scImage (fun _ _ _ _ _ _ us hl => match us, hl with | [_, _], _ => rfl) (fun vs H Q E h => ?_) (fun cdv A outer s H vs Q E hr h => ?_)
  · obtain ⟨_, _, _, rfl, _⟩ := h
    rfl
  · obtain ⟨t, M, w, rfl, ht, hM, hw, k⟩ := h
    have hu := hu_of hr
    refine ⟨_, (pss_cons (ps_set (i := 2) scImage.nd rfl (Or.inl rfl) pe_int)
      (pss_cons (ps_for PassesOwn.never rfl (pi_range1 rfl T.z_range (pa_cons (pe_callB (call_lenK (K := K) rfl) (by rfl) T.z_len PySem.boot_len (pa_cons (pv 0) pa_nil)) pa_nil)) (pg_name (i := 3) scImage.nd rfl (Or.inl rfl))
        (pss_one (ps_if (pt_cmpR op_eq (pe_op op_and (pe_op op_shr (pv 1) (pv 3)) pe_int) pe_int (nomark _))
          (pss_one (ps_set (i := 2) scImage.nd rfl (Or.inl rfl) (pe_op op_or (pv 2) (pe_ix (ix_tupK (K := K) rfl) (pv 0) (pv 3) (fun _ _ => rfl)))))
          pss_nil)))
      (pss_one (ps_ret (pv 2))))), ?_⟩
    refine ⟨_, rfl, t, _, rfl, .inr (SqT.of ht), _, rfl, by rw [List.length_map]; have := hM.1; omega, by rw [List.length_map]; have := hM.1; omega, ?_⟩
    rw [show ((List.map nV M).length : Int).toNat = M.length by simp]
    have hlt : ∀ i, i ≤ M.length → (List.range i).foldl (Mu.imgF M w) 0 < 8 := by
      intro i _
      have key : ∀ (l : List Nat) (o : Nat), o < 8 → l.foldl (Mu.imgF M w) o < 8 := by
        intro l
        induction l with
        | nil => intro o ho; exact ho
        | cons k l ih =>
          intro o ho
          refine ih _ ?_
          unfold Mu.imgF
          split
          · have hb : M.getD k 0 < 8 := by
              rw [List.getD_eq_getElem?_getD]
              cases e : M[k]? with
              | none => exact (by decide : (0 : Nat) < 8)
              | some x => exact hM.2 x (List.mem_of_getElem? e)
            exact Nat.or_lt_two_pow (n := 3) ho hb
          · exact ho
      exact key _ 0 (by decide)
    refine for_it (walk_range (n := M.length)) (fun i σ H' => H' = H ∧ ∃ z, σ = [some (.ref t), some (nV w), some (nV ((List.range i).foldl (Mu.imgF M w) 0)), z]) ⟨rfl, _, rfl⟩ (fun _ _ _ _ _ => trivial) ?_ ?_
    · rintro i x σ H1 H2 hi ⟨rfl, z, rfl⟩ ⟨rfl, rfl⟩
      have hwi : w / 2 ^ i < 8 := Nat.lt_of_le_of_lt (Nat.div_le_self _ _) hw
      have hi4 : i < 4 := by have := hM.1; omega
      have hand : Builtin.bitAnd ((w / 2 ^ i : Nat) : Int) 1 = ((((w / 2 ^ i) % 2 : Nat)) : Int) := bit_and1 ⟨_, hwi⟩
      have hodd : decide ((w / 2 ^ i) % 2 = 1) = w.testBit i := bits_odd ⟨w, hw⟩ ⟨i, hi4⟩
      have e0 : (((w : Nat) : Int) / 2 ^ ((0 : Int) + (i : Nat)).toNat) = ((w / 2 ^ i : Nat) : Int) := by
        rw [show ((0 : Int) + (i : Nat)).toNat = i by omega]
        push_cast
        rfl
      refine ⟨_, rfl, _, rfl, _, _, rfl, rfl, by omega, _, _, rfl, rfl, rfl, _, rfl, ?_⟩
      rw [e0, dec_int, hand]
      have ez : (List.range (i + 1)).foldl (Mu.imgF M w) 0 = Mu.imgF M w ((List.range i).foldl (Mu.imgF M w) 0) i := by
        rw [List.range_succ, List.foldl_append]
        rfl
      cases hb : w.testBit i with
      | true =>
        rw [hb] at hodd
        have h1 := of_decide_eq_true hodd
        have h1' : ((((w / 2 ^ i) % 2 : Nat) : Int) == 1) = true := by rw [h1]; rfl
        rw [h1']
        refine iteT ⟨_, rfl, _, rfl, _, rfl, t, _, _, nV M[i], rfl, rfl, SqT.of ht, ?_, _, _, rfl, rfl, rfl, some (.int (0 + (i : Nat))), ?_⟩
        · rw [show (0 : Int) + (i : Nat) = ((i : Nat) : Int) by omega]
          exact atI_nat (by simp [hi])
        · have hM8 : M[i] < 8 := hM.2 _ (List.getElem_mem _)
          have h8 := hlt i (Nat.le_of_lt hi)
          have hor : Builtin.bitOr (((List.range i).foldl (Mu.imgF M w) 0 : Nat) : Int) ((M[i] : Nat) : Int) = (((List.range i).foldl (Mu.imgF M w) 0 ||| M[i] : Nat) : Int) := bit_or8 ⟨_, h8⟩ ⟨_, hM8⟩
          show [some (V.ref t), some (nV w), some (V.int _), _] = [some (V.ref t), some (nV w), some (V.int _), _]
          rw [ez, hor]
          unfold Mu.imgF
          rw [hb, if_pos rfl, List.getD_eq_getElem?_getD, List.getElem?_eq_getElem hi]
          rfl
      | false =>
        rw [hb] at hodd
        have h1 := of_decide_eq_false hodd
        have h1' : ((((w / 2 ^ i) % 2 : Nat) : Int) == 1) = false := by
          rw [beq_eq_false_iff_ne]
          omega
        rw [h1']
        refine iteF ⟨rfl, some (.int (0 + (i : Nat))), ?_⟩
        rw [ez]
        have e1 : Mu.imgF M w ((List.range i).foldl (Mu.imgF M w) 0) i = (List.range i).foldl (Mu.imgF M w) 0 := by
          show (if w.testBit i then _ else _) = _
          rw [hb]
          rfl
        rw [e1]
        rfl
    · rintro σ H' ⟨rfl, z, rfl⟩
      exact ⟨_, rfl, k⟩
theorem scProduct : FnScope ["first", "last", "mask"] ["first", "last"] (defScope sProduct) := fnScope_by (by decide +kernel)
theorem c_product (T : Tx K mg) : Cal P w K mg base 2 "product" spProduct [] := by
  refine calD T.d_product T.g_product scProduct (fun _ _ _ _ _ _ us hl => match us, hl with | [_, _], _ => rfl) (fun vs H Q E h => ?_) (fun cdv A outer s H vs Q E hr h => ?_)
  · obtain ⟨_, _, _, _, rfl, _⟩ := h
    rfl
  · obtain ⟨a, b, A, B, rfl, ha, hb, hA, hB, k⟩ := h
    have hu := hu_of hr
    refine ⟨_, (pss_one (ps_ret (pe_callTy (call_tuple_ofK (K := K) rfl) (by rfl) T.z_tuple (by decide +kernel) (pa_cons (pe_lc (own := [("mask", 2)]) (g := gName 2) (tt := tYes)  (rfl) scProduct.nd (pi_tup (pv 0)) (blkOk_by (own := [("mask", 2)]) (N := ["first", "last", "mask"]) (sc := defScope sProduct) (by decide +kernel)) (fun _ _ _ _ _ => pg_name (i := 2) scProduct.nd rfl (Or.inl rfl)) (fun _ _ _ _ _ => pts_nil) (fun _ _ _ _ _ => (pe_c (c_image T) hr (by decide) rfl (pa_cons (pv 1) (pa_cons (pv 2) pa_nil))))) pa_nil)))), ?_⟩
    refine ⟨_, rfl, a, rfl, ⟨_, SqT.of ha⟩, fun D hD => ?_⟩
    refine lc_keep (walk_tup (xs := A.map nV)) hD (fun i _ acc => acc = ((A.take i).map (Mu.img B)).map nV) rfl (fun H' e => SqT.of (e _ _ ha)) ?_ ?_
    · rintro i x H1 H2 acc hi e hD1 rfl ⟨rfl, hx⟩
      obtain ⟨y, hy, rfl⟩ := nlst_get hx
      rw [List.length_map] at hi
      refine ⟨rfl, _, rfl, _, rfl, _, B, y, rfl, e _ _ hb, hB, hA.2 _ (List.mem_of_getElem? hy), PvK.more hD e hD1 ?_ ?_⟩
      · have := hA.1
        simp
        omega
      · rw [List.take_add_one, hy]
        simp
    · rintro H' acc e hD' rfl
      refine ⟨_, _, rfl, .inl ⟨SqL.of hD', fun p hp' => k _ p (Same.upd e hp') (e.free hp') ?_⟩⟩
      rw [upd_same, List.length_map, List.take_length]
      rfl
end
end Mz
namespace Mz
open PySem PySem.Spec PyProof.Rows L2 He C8
/-- any walk, its body as it stands -/
theorem it_gen {J : It} {n : Nat} {G : Hp → Prop} {Y : Nat → Hp → V → Hp → Prop} (w : Walk J n G Y) {H0 : Hp} {Qd : Hp → Prop} {B : V → Hp → (Hp → Prop) → Prop} (Pv : Nat → Hp → Prop) (h0 : Pv 0 H0) (hG : ∀ i H, Pv i H → G H)
    (hs : ∀ i x H H', i < n → Pv i H → Y i H x H' → B x H' (Pv (i + 1))) (hd : ∀ H, Pv n H → Qd H) :
    ∃ W : Nat → Nat → Hp → Prop, (∃ m, W 0 m H0) ∧ ∀ i m H, W i m H → (J.stop i H ∧ Qd H) ∨ (J.go i H ∧ ∃ Nx : Hp → Prop, (∀ H', Nx H' → ∃ m', m' < m ∧ W (i + 1) m' H') ∧ ∀ x H', J.yld i H x H' → B x H' Nx) := by
  refine ⟨fun i m H => m = n - i ∧ i ≤ n ∧ Pv i H, ⟨n, by simp, Nat.zero_le _, h0⟩, ?_⟩
  rintro i m H ⟨rfl, hi, p⟩
  have q := hG i H p
  by_cases hlt : i < n
  · refine .inr ⟨w.goes i H hlt q, Pv (i + 1), fun H' p' => ⟨n - (i + 1), by omega, rfl, hlt, p'⟩, fun x H' y => hs i x H H' hlt p (w.yields i H x H' hlt q y)⟩
  · have e : i = n := by omega
    subst e
    exact .inl ⟨w.stops H q, hd H p⟩
/-- all but x is as it was -/
def SameX (x : Addr) (H H' : Hp) : Prop := ∀ b o, b ≠ x → H b = some o → H' b = some o
theorem SameX.of {x : Addr} {H H' : Hp} (e : Same H H') : SameX x H H' := fun b o _ h => e b o h
theorem SameX.refl {x : Addr} {H : Hp} : SameX x H H := fun _ _ _ h => h
theorem SameX.trans {x : Addr} {H H' H2 : Hp} (e : SameX x H H') (f : SameX x H' H2) : SameX x H H2 := fun b o n h => f b o n (e b o n h)
theorem SameX.upd {x : Addr} {H H' : Hp} {o : HO} (e : SameX x H H') : SameX x H (L2.upd H' x o) := fun b u n h => by
  rw [upd_ne n]
  exact e b u n h
/-- no plain list, no tuple of numbers -/
structure Odd (o : HO) : Prop where
  refs : ∀ ls : List Addr, o ≠ .lst (ls.map V.ref)
  nl : ∀ A, o ≠ nlst A
  nt : ∀ A, o ≠ ntup A
theorem odd_ins {C dx : Addr} {fs : List (Str × V)} : Odd (.ins C dx fs) := by
  refine ⟨fun ls z => ?_, fun A z => ?_, fun A z => ?_⟩
  · cases z
  · unfold nlst at z; cases z
  · unfold ntup at z; cases z
theorem RowsAt.sameX {H H' : Hp} {l x : Addr} {o : HO} {R : List (List Nat)} (h : RowsAt H l R) (e : SameX x H H') (hx : H x = some o) (d : Odd o) : RowsAt H' l R := by
  obtain ⟨ls, h1, h2, h3⟩ := h
  refine ⟨ls, e _ _ (ne_of h1 hx (d.refs ls).symm) h1, h2, fun i a u p q => ?_⟩
  have u1 := h3 i a u p q
  refine e _ _ (ne_of u1 hx ?_) u1
  rw [List.getElem?_map] at q
  cases z : R[i]? with
  | none => rw [z] at q; cases q
  | some r =>
    rw [z] at q
    cases q
    exact (d.nl r).symm
/-- a table -/
def TableAt (K : PySem.W.Frag) (H : Hp) (x : Addr) (M : List Nat) : Prop := ∃ dx t c, H x = some (.ins (ga K "Table") dx [("size", nV M.length), ("masks", .ref t), ("cells", .ref c)]) ∧ H t = some (ntup M)
theorem TableAt.same {K : PySem.W.Frag} {H H' : Hp} {x : Addr} {M : List Nat} (h : TableAt K H x M) (e : Same H H') : TableAt K H' x M := by
  obtain ⟨dx, t, c, h1, h2⟩ := h
  exact ⟨dx, t, c, e _ _ h1, e _ _ h2⟩
/-- a new table is handed back -/
def RT (K : PySem.W.Frag) (H : Hp) (M : List Nat) (Q : VK) : Prop := ∀ H' x, Same H H' → H x = none → TableAt K H' x M → Q (.ref x) H'
theorem RT.same {K : PySem.W.Frag} {H H' : Hp} {M : List Nat} {Q : VK} (h : RT K H M Q) (e : Same H H') : RT K H' M Q := fun H2 p s n x => h H2 p (e.trans s) (e.free n) x
def spCheckSize : Sp := fun vs H Q _ => ∃ n : Nat, vs = [nV n] ∧ 1 ≤ n ∧ n ≤ 6 ∧ Q .non H
def spCheckWord : Sp := fun vs H Q _ => ∃ n i : Nat, vs = [nV n, nV i] ∧ i < n ∧ Q .non H
def spCheckSizes : Sp := fun vs H Q _ => ∃ n : Nat, vs = [nV n, nV n] ∧ Q .non H
def spAllWords : Sp := fun vs H Q _ => ∃ (n : Nat) (l : Addr) (A : List Nat), vs = [nV n, .ref l] ∧ H l = some (nlst A) ∧ (∀ a ∈ A, a < n) ∧ Q (.bl true) H
def spTableInit (K : PySem.W.Frag) : Sp := fun vs H Q _ => ∃ (x l dx : Addr) (M : List Nat), vs = [.ref x, .ref l] ∧ H x = some (.ins (ga K "Table") dx []) ∧ RowsAt H l (M.map Mu.bitsL) ∧ Sm M ∧ 1 ≤ M.length ∧ (∀ m ∈ M, m < 2 ^ M.length) ∧ ∀ H', SameX x H H' → TableAt K H' x M → Q .non H'
section
variable {P : Program} {w : World} {K : PySem.W.Frag} {mg : Str → Option Value} {base : Heap}
theorem scCheckSize : FnScope ["size"] ["size"] (defScope sCheckSize) := fnScope_by (by decide +kernel)
theorem c_check_size (T : Tx K mg) : Cal P w K mg base 1 "check_size" spCheckSize [] := by
  refine calD T.d_check_size T.g_check_size scCheckSize (fun _ _ _ _ _ _ us hl => match us, hl with | [_], _ => rfl) (fun vs H Q E h => ?_) (fun cdv A outer s H vs Q E hr h => ?_)
  · obtain ⟨_, rfl, _⟩ := h
    rfl
  · obtain ⟨n, rfl, h1, h6, k⟩ := h
    have hu := hu_of hr
    refine ⟨_, (pss_one (ps_if (PW.pt (pw_or (pt_cmpR op_lt (pv 0) pe_int (nomark _)) (pw_or1 (pt_cmpR op_gt (pv 0) (gc_GREATEST_SIZE T) (nomark _)))))
        (pss_one ps_never)
        pss_nil)), ?_⟩
    refine ⟨_, rfl, _, _, rfl, rfl, _, rfl, ?_⟩
    rw [decide_eq_false (show ¬ ((n : Nat) : Int) < 1 by omega)]
    refine iteF ⟨_, rfl, _, _, rfl, rfl, _, rfl, ?_⟩
    rw [decide_eq_false (show ¬ (6 : Int) < ((n : Nat) : Int) by omega)]
    exact iteF k
theorem scCheckWord : FnScope ["size", "word"] ["size", "word"] (defScope sCheckWord) := fnScope_by (by decide +kernel)
theorem c_check_word (T : Tx K mg) : Cal P w K mg base 1 "check_word" spCheckWord [] := by
  refine calD T.d_check_word T.g_check_word scCheckWord (fun _ _ _ _ _ _ us hl => match us, hl with | [_, _], _ => rfl) (fun vs H Q E h => ?_) (fun cdv A outer s H vs Q E hr h => ?_)
  · obtain ⟨_, _, rfl, _⟩ := h
    rfl
  · obtain ⟨n, i, rfl, hi, k⟩ := h
    have hu := hu_of hr
    refine ⟨_, (pss_one (ps_if (PW.pt (pw_or (pt_cmpR op_lt (pv 1) pe_int (nomark _)) (pw_or1 (pt_cmpR op_ge (pv 1) (pv 0) (nomark _)))))
        (pss_one ps_never)
        pss_nil)), ?_⟩
    refine ⟨_, rfl, _, _, rfl, rfl, _, rfl, ?_⟩
    rw [decide_eq_false (show ¬ ((i : Nat) : Int) < 0 by omega)]
    refine iteF ⟨_, rfl, _, rfl, _, _, rfl, rfl, _, rfl, ?_⟩
    rw [decide_eq_false (show ¬ ((n : Nat) : Int) ≤ ((i : Nat) : Int) by omega)]
    exact iteF k
theorem scCheckSizes : FnScope ["first", "second"] ["first", "second"] (defScope sCheckSizes) := fnScope_by (by decide +kernel)
theorem c_check_sizes (T : Tx K mg) : Cal P w K mg base 1 "check_sizes" spCheckSizes [] := by
  refine calD T.d_check_sizes T.g_check_sizes scCheckSizes (fun _ _ _ _ _ _ us hl => match us, hl with | [_, _], _ => rfl) (fun vs H Q E h => ?_) (fun cdv A outer s H vs Q E hr h => ?_)
  · obtain ⟨_, rfl, _⟩ := h
    rfl
  · obtain ⟨n, rfl, k⟩ := h
    have hu := hu_of hr
    refine ⟨_, (pss_one (ps_if (pt_cmpR op_ne (pv 0) (pv 1) (nomark _))
        (pss_one ps_never)
        pss_nil)), ?_⟩
    refine ⟨_, rfl, _, rfl, rfl, _, rfl, ?_⟩
    exact iteNS rfl k
theorem scAllWords : FnScope ["size", "words", "word"] ["size", "words"] (defScope sAllWords) := fnScope_by (by decide +kernel)
theorem c_all_words (T : Tx K mg) : Cal P w K mg base 1 "all_words" spAllWords [] := by
  refine calD T.d_all_words T.g_all_words scAllWords (fun _ _ _ _ _ _ us hl => match us, hl with | [_, _], _ => rfl) (fun vs H Q E h => ?_) (fun cdv A outer s H vs Q E hr h => ?_)
  · obtain ⟨_, _, _, rfl, _⟩ := h
    rfl
  · obtain ⟨n, l, A, rfl, hl, hA, k⟩ := h
    have hu := hu_of hr
    refine ⟨_, (pss_cons (ps_for PassesOwn.never rfl (pi_list (pv 1)) (pg_name (i := 2) scAllWords.nd rfl (Or.inl rfl))
        (pss_one (ps_if (PW.pt (pw_or (pt_cmpR op_lt (pv 2) pe_int (nomark _)) (pw_or1 (pt_cmpR op_ge (pv 2) (pv 0) (nomark _)))))
          (pss_one (ps_ret pe_bl))
          pss_nil)))
      (pss_one (ps_ret pe_bl))), ?_⟩
    refine ⟨_, rfl, l, rfl, ⟨_, SqL.of hl⟩, for_it (walk_list (xs := A.map nV)) (fun i σ H' => H' = H ∧ ∃ z, σ = [some (nV n), some (.ref l), z]) ⟨rfl, _, rfl⟩ (fun i σ H' _ h => by rw [h.1]; exact SqL.of hl) ?_ ?_⟩
    · rintro i x σ H1 H2 hi ⟨rfl, z, rfl⟩ ⟨rfl, hx⟩
      obtain ⟨y, hy, rfl⟩ := nlst_get hx
      have hyn : y < n := hA y (List.mem_of_getElem? hy)
      refine ⟨_, rfl, _, _, rfl, rfl, _, rfl, ?_⟩
      rw [decide_eq_false (show ¬ ((y : Nat) : Int) < 0 by omega)]
      refine iteF ⟨_, rfl, _, rfl, _, _, rfl, rfl, _, rfl, ?_⟩
      rw [decide_eq_false (show ¬ ((n : Nat) : Int) ≤ ((y : Nat) : Int) by omega)]
      exact iteF ⟨rfl, some (nV y), rfl⟩
    · rintro σ H' ⟨rfl, z, rfl⟩
      exact k
end
end Mz
namespace Mz
open PySem PySem.Spec PyProof.Rows L2 He C8
section
variable {P : Program} {w : World} {K : PySem.W.Frag} {mg : Str → Option Value} {base : Heap}
theorem scTableInit : FnScope ["self", "rows", "at", "row", "word", "told", "out"] ["self", "rows"] (defScope sTable_Init) := fnScope_by (by decide +kernel)
theorem f_Table___init__ (T : Tx K mg) : ∃ fd, FnOk P w K mg base C8.CX0 3 (ma K (ga K "Table") "__init__") fd ["self", "rows"] (spTableInit K) ∧ Binds K fd ["self", "rows"] [] := by
  refine fnM T.m_Table___init__ scTableInit (fun _ _ _ _ _ _ us hl => match us, hl with | [_, _], _ => rfl) (fun vs H Q E h => ?_) (fun cdv A outer s H vs Q E hr h => ?_)
  · obtain ⟨_, _, _, _, rfl, _⟩ := h
    rfl
  · obtain ⟨x, l, dx, M, rfl, hx, ⟨ls, hl, hp⟩, hM, h1, hb, k⟩ := h
    have hu := hu_of hr
    refine ⟨_, (pss_cons (ps_expr (pe_c (c_check_size T) hr (by decide) rfl (pa_cons (pe_callB (call_lenK (K := K) rfl) (by rfl) T.z_len PySem.boot_len (pa_cons (pv 1) pa_nil)) pa_nil)))
      (pss_cons (ps_for PassesOwn.never rfl (pi_enum (by rfl) T.z_enumerate (pa_cons (pv 1) pa_nil)) (pg_tup rfl (pgs_cons (pg_name (i := 2) scTableInit.nd rfl (Or.inl rfl)) (pgs_cons (pg_name (i := 3) scTableInit.nd rfl (Or.inl rfl)) pgs_nil)))
        (pss_one (ps_for PassesOwn.never rfl (pi_list (pv 3)) (pg_name (i := 4) scTableInit.nd rfl (Or.inl rfl))
          (pss_one (ps_if (PW.pt (pw_or (pt_cmpR op_lt (pv 4) pe_int (nomark _)) (pw_or1 (pt_cmpR op_ge (pv 4) (pe_callB (call_lenK (K := K) rfl) (by rfl) T.z_len PySem.boot_len (pa_cons (pv 1) pa_nil)) (nomark _)))))
            (pss_one ps_never)
            pss_nil)))))
      (pss_cons (ps_fld (pv 0) (pe_callB (call_lenK (K := K) rfl) (by rfl) T.z_len PySem.boot_len (pa_cons (pv 1) pa_nil)) rfl)
      (pss_cons (ps_fld (pv 0) (pe_c (c_masks_of T) hr (by decide) rfl (pa_cons (pv 1) pa_nil)) rfl)
      (pss_one (ps_fld (pv 0) (pe_callTy (call_tuple_ofK (K := K) rfl) (by rfl) T.z_tuple (by decide +kernel) (pa_cons (pe_lc2 (own := [("told", 5), ("out", 6)]) (vs1 := [6]) (g := gName 5) (g1 := gName 6) (wi1 := iList K _) (tt := tYes) (tt1 := tYes)  rfl scTableInit.nd (pi_range1 rfl T.z_range (pa_cons (pe_callB (call_lenK (K := K) rfl) (by rfl) T.z_len PySem.boot_len (pa_cons (pv 1) pa_nil)) pa_nil)) (blkOk_by (own := [("told", 5), ("out", 6)]) (N := ["self", "rows", "at", "row", "word", "told", "out"]) (sc := defScope sTable_Init) (by decide +kernel)) (by decide) (fun _ _ _ _ _ => pg_name (i := 5) scTableInit.nd rfl (Or.inl rfl)) (fun _ _ _ _ _ => pts_nil) (fun _ _ _ _ _ => (pi_list (pe_c (c_bits T) hr (by decide) rfl (pa_cons (pe_ix (ix_tupK (K := K) rfl) (pe_fldK (K := K) rfl (pv 0) rfl) (pv 5) (fun _ _ => rfl)) pa_nil)))) (fun _ _ _ _ _ => pg_name (i := 6) scTableInit.nd rfl (Or.inl rfl)) (fun _ _ _ _ _ => pts_nil) (fun _ _ _ _ _ => (pe_tup (pa_cons (pv 5) (pa_cons (pv 6) pa_nil))))) pa_nil)) rfl)))))), ?_⟩
    have hlen : ls.length = M.length := by
      have := hp.1
      simp at this
      exact this
    have hlen' : (ls.map V.ref).length = M.length := by rw [List.length_map, hlen]
    have hML := hM.1
    refine ⟨_, rfl, l, _, rfl, .inl (SqL.of hl), (ls.map V.ref).length, rfl, by omega, by omega, ?_⟩
    refine ⟨_, rfl, l, _, rfl, SqL.of hl, for_it (walk_enum (xs := ls.map V.ref)) (fun i σ H' => Same H H' ∧ ∃ z1 z2 z3, σ = [some (.ref x), some (.ref l), z1, z2, z3, none, none]) ⟨Same.refl _, _, _, _, rfl⟩ (fun i σ H' _ h => SqL.of (h.1 _ _ hl)) ?_ ?_⟩
    · rintro i v σ H1 H2 hi ⟨e, z1, z2, z3, rfl⟩ ⟨t, v1, v2, rfl, ht, rfl, hv1, hv2⟩
      cases hv1
      have hiM : i < M.length := by omega
      obtain ⟨a, ha, hA⟩ := hp.get (i := i) (o := nlst (Mu.bitsL M[i])) (by simp [hiM])
      have hv2' : (ls.map V.ref)[i]? = some v2 := hv2
      rw [List.getElem?_map, ha] at hv2'
      cases hv2'
      have e2 : Same H (L2.upd H1 t (.tup [V.int ((i : Nat) : Int), V.ref a])) := Same.upd e ht
      refine ⟨_, _, rfl, SqT.of upd_same, rfl, _, _, rfl, _, _, rfl, rfl, ?_⟩
      refine ⟨_, rfl, a, rfl, ⟨_, SqL.of (e2 _ _ hA)⟩, for_it (walk_list (xs := (Mu.bitsL M[i]).map nV)) (fun j σ H' => Same H H' ∧ ∃ z1 z3, σ = [some (.ref x), some (.ref l), z1, some (.ref a), z3, none, none]) ⟨e2, _, _, rfl⟩ (fun j σ H' _ h => SqL.of (h.1 _ _ hA)) ?_ ?_⟩
      · rintro j v σ H3 H4 hj ⟨e4, z1, z3, rfl⟩ ⟨rfl, hv⟩
        obtain ⟨y, hy, rfl⟩ := nlst_get hv
        have hyn : y < M.length := Mu.bitsL_lt (hb _ (List.getElem_mem _)) (List.mem_of_getElem? hy)
        refine ⟨_, rfl, _, _, rfl, rfl, _, rfl, ?_⟩
        rw [decide_eq_false (show ¬ ((y : Nat) : Int) < 0 by omega)]
        refine iteF ⟨_, rfl, _, rfl, l, _, rfl, .inl (SqL.of (e4 _ _ hl)), _, _, rfl, rfl, _, rfl, ?_⟩
        rw [decide_eq_false (show ¬ (((ls.map V.ref).length : Nat) : Int) ≤ ((y : Nat) : Int) by omega)]
        exact iteF ⟨e4, _, some (nV y), rfl⟩
      · rintro σ H4 ⟨e4, z1, z3, rfl⟩
        exact ⟨e4, _, _, _, rfl⟩
    · rintro σ H1 ⟨e, z1, z2, z3, rfl⟩
      have rx : ∀ {H2 : Hp}, SameX x H H2 → H2 l = some (.lst (ls.map V.ref)) ∧ RowsAt H2 l (M.map Mu.bitsL) := fun e => by
        refine ⟨e _ _ (ne_of hl hx (fun z => by cases z)) hl, RowsAt.sameX ⟨ls, hl, hp⟩ e hx odd_ins⟩
      refine ⟨_, rfl, l, _, rfl, .inl (SqL.of (e _ _ hl)), _, rfl, x, _, dx, [], rfl, e _ _ hx, T.c_Table, T.n_Table_size, by decide, ?_⟩
      have e2 : SameX x H (L2.upd H1 x (.ins (ga K "Table") dx [("size", nV M.length)])) := (SameX.of e).upd
      have es : HO.ins (ga K "Table") dx (putF "size" (V.int (((ls.map V.ref).length : Nat) : Int)) []) = .ins (ga K "Table") dx [("size", nV M.length)] := by rw [hlen']; rfl
      rw [es]
      refine ⟨_, rfl, l, M, rfl, (rx e2).2, hM, fun H2 t e3 ht ht' => ?_⟩
      refine ⟨_, rfl, x, _, dx, _, rfl, e3 _ _ upd_same, T.c_Table, T.n_Table_masks, by show 1 < 1000; decide, ?_⟩
      have es2 : HO.ins (ga K "Table") dx (putF "masks" (V.ref t) [("size", nV M.length)]) = .ins (ga K "Table") dx [("size", nV M.length), ("masks", .ref t)] := rfl
      rw [es2]
      have e4 : SameX x H (L2.upd H2 x (.ins (ga K "Table") dx [("size", nV M.length), ("masks", .ref t)])) := (e2.trans (SameX.of e3)).upd
      generalize hH3 : L2.upd H2 x (.ins (ga K "Table") dx [("size", nV M.length), ("masks", .ref t)]) = H3 at e4 ⊢
      have x3 : H3 x = some (.ins (ga K "Table") dx [("size", nV M.length), ("masks", .ref t)]) := by rw [← hH3, upd_same]
      have tx : t ≠ x := fun z => by
        rw [z] at ht
        rw [upd_same] at ht
        cases ht
      have t3 : H3 t = some (ntup M) := by rw [← hH3, upd_ne tx]; exact ht'
      refine ⟨_, rfl, l, _, rfl, .inl (SqL.of (rx e4).1), _, rfl, by rw [hlen']; omega, by rw [hlen']; omega, fun D hD => ?_⟩
      rw [show (((ls.map V.ref).length : Nat) : Int).toNat = M.length by rw [hlen']; rfl]
      refine it_gen (walk_range (n := M.length)) (fun i H' => Same H3 H' ∧ ∃ acc, H' D = some (.lst acc) ∧ acc.length ≤ 3 * i) ⟨Same.upd (Same.refl _) hD, _, upd_same, by simp⟩ (fun _ _ _ => trivial) ?_ ?_
      · rintro i v H4 H5 hi ⟨e5, acc, hacc, hal⟩ ⟨rfl, rfl⟩
        have hb8 : M[i] < 8 := hM.2 _ (List.getElem_mem _)
        refine ⟨rfl, ?_⟩
        refine ⟨_, rfl, x, _, dx, _, _, rfl, e5 _ _ x3, T.c_Table, T.n_Table_masks, rfl, _, rfl, t, _, _, nV M[i], rfl, rfl, SqT.of (e5 _ _ t3), ?_, M[i], rfl, hb8, fun H6 b e6 hb6 hb6' => ?_⟩
        · rw [show (0 : Int) + (i : Nat) = ((i : Nat) : Int) by omega]
          exact atI_nat (by simp [hi])
        refine ⟨b, rfl, ⟨_, SqL.of hb6'⟩, ?_⟩
        have bl := bits_len ⟨_, hb8⟩
        have bD : b ≠ D := fun z => by
          rw [z, hacc] at hb6
          cases hb6
        refine it_gen (walk_list (xs := (Mu.bitsL M[i]).map nV)) (fun j H' => Same H3 H' ∧ H' b = some (nlst (Mu.bitsL M[i])) ∧ ∃ acc, H' D = some (.lst acc) ∧ acc.length ≤ 3 * i + j) ⟨e5.trans e6, hb6', acc, e6 _ _ hacc, hal⟩ (fun _ _ h => SqL.of h.2.1) ?_ ?_
        · rintro j v H7 H8 hj ⟨e7, hb7, acc7, hacc7, hal7⟩ ⟨rfl, hv⟩
          rw [List.length_map] at hj
          refine ⟨rfl, _, rfl, _, rfl, by show 2 ≤ sizeLine; decide, fun t2 ht2 => ⟨acc7, ?_, small1000 (by simp at bl; omega), ?_, ?_, _, upd_same, ?_⟩⟩
          · rw [upd_ne (ne_of_none hacc7 ht2)]
            exact hacc7
          · exact Same.updn (Same.upd e7 ht2) hD
          · rw [upd_ne bD, upd_ne (ne_of_none hb7 ht2)]
            exact hb7
          · rw [List.length_append]
            simp
            omega
        · rintro H7 ⟨e7, hb7, acc7, hacc7, hal7⟩
          rw [List.length_map] at hal7
          simp at bl
          exact ⟨e7, acc7, hacc7, by omega⟩
      · rintro H4 ⟨e5, acc, hacc, hal⟩
        refine ⟨D, _, rfl, .inl ⟨SqL.of hacc, fun c hc => ?_⟩⟩
        have e6 : Same H3 (L2.upd H4 c (.tup acc)) := Same.upd e5 hc
        refine ⟨_, rfl, x, _, dx, _, rfl, e6 _ _ x3, T.c_Table, T.n_Table_cells, by show 2 < 1000; decide, ?_⟩
        refine k _ ((e4.trans (SameX.of e6)).upd) ⟨dx, t, c, upd_same, ?_⟩
        rw [upd_ne tx]
        exact e6 _ _ t3
end
end Mz
/-! methods that say super(): the frame with the cell of __class__, the first statement, the rest by PSs -/
namespace Mz
open PySem PySem.Spec PyProof.Rows L2 ClX
theorem cells_app : ∀ (names : List (Str × NameKind)) (n : Nat) (acc : List (Str × Addr)), cellsFrom n names acc = cellsFrom n names [] ++ acc
  | [], _, acc => by unfold cellsFrom; rfl
  | (x, k) :: r, n, acc => by
    unfold cellsFrom
    split
    · rw [cells_app r (n + 1) ((x, n) :: acc), cells_app r (n + 1) [(x, n)], List.append_assoc]
      rfl
    · exact cells_app r n acc
abbrev ownS (sc : Scope) (L : Addr) : List (Str × Addr) := cellsFrom (L + 1) sc.names []
abbrev envS (qual : Str) (sc : Scope) (L f : Addr) (cd : Value) (cc : Addr) : Env := PySem.W.envX qual sc L f cd (ownS sc L ++ [(("__class__" : Str), cc)])
/-- the names of such a def -/
structure SupScope (N P : List Str) (sc : Scope) : Prop where
  kind : sc.kind = .function
  co : sc.isCoroutine = false
  gen : sc.isGenerator = false
  nd : N.Nodup
  pre : N.take P.length = P
  par : ∀ x ∈ P, sc.names.lookup x = some .local ∨ sc.names.lookup x = some .cell
  free : ∀ y ∈ sc.names, y.2 = .free → y.1 = "__class__"
  cls : sc.names.lookup ("__class__" : Str) = some .free
  sup : sc.names.lookup ("super" : Str) = some .globalImplicit
  one : ∀ y ∈ sc.names, y.2 = .cell → y.1 ≠ "__class__"
  nin : ("__class__" : Str) ∉ N
def supC (N P : List Str) (sc : Scope) : Bool :=
  decide (sc.kind = .function) && !sc.isCoroutine && !sc.isGenerator && decide N.Nodup && decide (N.take P.length = P) && P.all (fun x => decide (sc.names.lookup x = some .local) || decide (sc.names.lookup x = some .cell)) &&
    sc.names.all (fun y => !decide (y.2 = .free) || decide (y.1 = "__class__")) && decide (sc.names.lookup ("__class__" : Str) = some .free) && decide (sc.names.lookup ("super" : Str) = some .globalImplicit) && sc.names.all (fun y => !decide (y.2 = .cell) || decide (y.1 ≠ "__class__")) && decide (("__class__" : Str) ∉ N)
theorem supScope_by {N P : List Str} {sc : Scope} (h : supC N P sc = true) : SupScope N P sc := by
  unfold supC at h
  simp only [Bool.and_eq_true, Bool.not_eq_true', decide_eq_true_eq, List.all_eq_true, Bool.or_eq_true, decide_eq_false_iff_not] at h
  obtain ⟨⟨⟨⟨⟨⟨⟨⟨⟨⟨h1, h2⟩, h3⟩, h4⟩, h5⟩, h6⟩, h7⟩, h8⟩, h9⟩, h10⟩, h11⟩ := h
  exact ⟨h1, h2, h3, h4, h5, h6, fun y hy e => (h7 y hy).resolve_left (fun z => z e), h8, h9, fun y hy e => (h10 y hy).resolve_left (fun z => z e), h11⟩
theorem own_kind : ∀ {names : List (Str × NameKind)} {n : Nat} {y : Str} {c : Addr}, (y, c) ∈ cellsFrom n names [] → (y, NameKind.cell) ∈ names
  | [], _, _, _, h => by unfold cellsFrom at h; cases h
  | (x, k) :: r, n, y, c, h => by
    unfold cellsFrom at h
    split at h
    · rename_i hk
      have hk' : k = .cell := beq_iff_eq.mp hk
      rw [cells_app] at h
      rcases List.mem_append.mp h with h | h
      · exact List.mem_cons_of_mem _ (own_kind h)
      · rcases List.mem_singleton.mp h with h
        cases h
        rw [hk']
        exact List.mem_cons_self
    · exact List.mem_cons_of_mem _ (own_kind h)
theorem look_app {l : List (Str × Addr)} {y : Str} {cc c : Addr} (h : (l ++ [(("__class__" : Str), cc)]).lookup y = some c) : l.lookup y = some c ∨ (l.lookup y = none ∧ y = "__class__" ∧ c = cc) := by
  rw [List.lookup_append] at h
  cases e : l.lookup y with
  | some d => rw [e] at h; exact .inl h
  | none =>
    rw [e] at h
    have h : List.lookup y [(("__class__" : Str), cc)] = some c := h
    rw [List.lookup_cons] at h
    cases b : y == ("__class__" : Str) with
    | true => rw [b] at h; cases h; exact .inr ⟨rfl, beq_iff_eq.mp b, rfl⟩
    | false => rw [b] at h; cases h
theorem app_look {l : List (Str × Addr)} {y : Str} {cc c : Addr} (h : l.lookup y = some c) : (l ++ [(("__class__" : Str), cc)]).lookup y = some c := by
  rw [List.lookup_append, h]
  rfl
section
variable {M : Model} {A : Around} {E : Value → Shared → Prop} {s₀ s : Shared} {m cm : Str → Option Value} {env : Env} {cs : List (Str × Addr)}
theorem stLS {n : Str} {v : Value} {Q : Unit → Shared → Prop} (x : InCallC s₀ env.locals m cs cm s) (hk : env.scope.kind = .function) (hl : env.kindOf n = some .local)
    (h : ∀ s', InCallC s₀ env.locals (fun y => if y = n then some v else m y) cs cm s' → Q () s') : wpAny M A (storeName env n v) Q E s := by
  refine wpAny_storeName_local hl x.toInCall.ns (fun h' hn' hs' => h _ ⟨⟨?_, hn', fun b o e => ?_, x.toInCall.fresh⟩, fun k c hc => ?_, x.apart, x.above⟩) (by rw [hk]; rfl)
  · obtain ⟨h₁, tk, rfl⟩ := x.toInCall.same
    exact ⟨h', _, rfl⟩
  · exact hs'.extBut b o (Nat.ne_of_lt (Nat.lt_of_lt_of_le (Heap.lt_size e) x.toInCall.fresh)) (x.toInCall.keep b o e)
  · exact (x.cell k c hc).sameBut hs' (Nat.ne_of_gt (x.above k c (PySem.mem_of_lookup hc)))
theorem stCS {n : Str} {c : Addr} {v : Value} {Q : Unit → Shared → Prop} (x : InCallC s₀ env.locals m cs cm s) (hk : env.scope.kind = .function) (hl : env.kindOf n = some .cell)
    (hc : cs.lookup n = some c) (hc' : env.cells.lookup n = some c)
    (h : ∀ s', InCallC s₀ env.locals m cs (fun y => if y = n then some v else cm y) s' → Q () s') : wpAny M A (storeName env n v) Q E s := by
  have hLc := x.above n c (PySem.mem_of_lookup hc)
  refine wpAny_storeName_cell hk hl hc' (x.cell n c hc) fun h' hw hs' => h _ ⟨⟨?_, x.toInCall.ns.sameBut hs' (Nat.ne_of_lt hLc), fun b o e => ?_, x.toInCall.fresh⟩, fun k c' hk' => ?_, x.apart, x.above⟩
  · obtain ⟨h₁, tk, rfl⟩ := x.toInCall.same
    exact ⟨h', _, rfl⟩
  · exact hs'.extBut b o (Nat.ne_of_lt (Nat.lt_trans (Nat.lt_of_lt_of_le (Heap.lt_size e) x.toInCall.fresh) hLc)) (x.toInCall.keep b o e)
  · by_cases hkn : k = n
    · subst hkn
      rw [hc] at hk'; cases hk'
      simpa using hw
    · rw [if_neg hkn]
      exact (x.cell k c' hk').sameBut hs' fun e => hkn (name_of_addr x.apart (PySem.mem_of_lookup hk') (e ▸ PySem.mem_of_lookup hc))
theorem bindParamsS (f : Str × Value → PUnit → Sem (ForInStep PUnit)) (hf : ∀ n v u, f (n, v) u = (do storeName env n v; pure (.yield ⟨⟩))) (hk : env.scope.kind = .function) :
    ∀ (binds : List (Str × Value)) (m cm : Str → Option Value) (s : Shared) (Q : PUnit → Shared → Prop), InCallC s₀ env.locals m cs cm s →
      (∀ x ∈ binds, env.kindOf x.1 = some .local ∨ (env.kindOf x.1 = some .cell ∧ ∃ c, cs.lookup x.1 = some c ∧ env.cells.lookup x.1 = some c)) →
      (∀ s', InCallC s₀ env.locals (bindL env.kindOf binds m) cs (bindC env.kindOf binds cm) s' → Q ⟨⟩ s') → wpAny M A (forIn binds ⟨⟩ f) Q E s
  | [], m, cm, s, Q, x, _, h => by rw [List.forIn_nil]; exact wpAny_pure (h s x)
  | (n, v) :: r, m, cm, s, Q, x, hkind, h => by
    rw [List.forIn_cons, hf]
    have hr := fun y hy => hkind y (List.mem_cons_of_mem _ hy)
    rcases hkind (n, v) List.mem_cons_self with hl | ⟨hl, c, hc, hc'⟩
    · refine wpAny_bind (wpAny_bind (stLS x hk hl fun s' x' => wpAny_pure (bindParamsS f hf hk r _ _ s' Q x' hr fun s'' x'' => h s'' ?_)))
      unfold bindL bindC; rw [if_pos hl, if_pos hl]; exact x''
    · have hnl : ¬ env.kindOf n = some .local := by rw [hl]; decide
      refine wpAny_bind (wpAny_bind (stCS x hk hl hc hc' fun s' x' => wpAny_pure (bindParamsS f hf hk r _ _ s' Q x' hr fun s'' x'' => h s'' ?_)))
      unfold bindL bindC; rw [if_neg hnl, if_neg hnl]; exact x''
end
section
variable {M : Model} {A : Around} {E : Value → Shared → Prop} {s : Shared}
theorem newEnvS {scope : Scope} {binds : List (Str × Value)} {qual : Str} {f : Addr} {code : Value} {cc : Addr} {Q : Env → Shared → Prop}
    (hk : scope.kind = .function)
    (hkind : ∀ x ∈ binds, scope.names.lookup x.1 = some .local ∨ (scope.names.lookup x.1 = some .cell ∧ ∃ c, (ownS scope s.heap.objs.size).lookup x.1 = some c))
    (hQ : ∀ s', InCallC s s.heap.objs.size (bindL (envS qual scope s.heap.objs.size f code cc).kindOf binds fun _ => none) (ownS scope s.heap.objs.size) (bindC (envS qual scope s.heap.objs.size f code cc).kindOf binds fun _ => none) s' →
      Q (envS qual scope s.heap.objs.size f code cc) s') :
    wpAny M A (newFunctionEnv scope mainGlobals [("__class__", cc)] binds (qual ++ ".<locals>.") (some f) code none builtinsNs) Q E s := by
  simp only [newFunctionEnv, Option.isSome_none, Bool.false_eq_true, if_false]
  refine wpAny_bind (wpAny_alloc ?_)
  refine wpAny_bind (wpAny_layCells _ (fun name kind cells => by cases hkc : kind == NameKind.cell <;> simp [hkc]) _ _ _ _ ?_)
  have ok := cellsFrom_ok scope.names (s.heap.push { cls := .type "frame", data := .dict #[] }) (s.heap.objs.size + 1) [] ⟨fun _ _ hm => (nomatch hm), List.Pairwise.nil⟩ (by rw [Heap.size_push]; exact Nat.le_refl _)
  rw [Heap.size_push] at ok
  rw [show ({ s with heap := s.heap.push { cls := .type "frame", data := .dict #[] } } : Shared).heap.objs.size = s.heap.objs.size + 1 from Heap.size_push ..]
  rw [cells_app]
  refine wpAny_bind (bindParamsS (s₀ := s) (cs := ownS scope s.heap.objs.size) (env := envS qual scope s.heap.objs.size f code cc)
    _ (fun _ _ _ => rfl) hk binds (fun _ => none) (fun _ => none) _ _
    ⟨⟨⟨_, _, rfl⟩, (Heap.Ns.new s.heap (.type "frame")).keeps (pushCells_keeps _ _), fun b o e => pushCells_keeps _ _ b o (Heap.get?_push_of_some _ e), Nat.le_refl _⟩,
      fun n c hc => (ok.empty n c (PySem.mem_of_lookup hc)).1, ok.apart, fun n c hm => (ok.empty n c hm).2⟩
    (fun x hx => (hkind x hx).imp id fun ⟨h1, c, h2⟩ => ⟨h1, c, h2, app_look h2⟩) fun s' x => wpAny_pure (hQ s' x))
end
/-- the context of such a body -/
def sCx (CX : CXT) (P : Program) (w : World) (K : PySem.W.Frag) (mg : Str → Option Value) (base : Heap) (N : List Str) (qual : Str) (scope : Scope) (f : Addr) (cd : Value) (cc : Addr) (A : Around) (outer : List Env) (s : Shared) (H : Hp) (E : XK) : Cx where
  prog := P
  w := w
  K := K
  mg := mg
  base := base
  A := A.deeper (envS qual scope s.heap.objs.size f cd cc)
  N := N
  s_0 := s
  H_0 := H
  env := envS qual scope s.heap.objs.size f cd cc
  outer := outer
  stack := envS qual scope s.heap.objs.size f cd cc :: outer
  ex := []
  calm := true
  fn := fun x => !decide (x = "__class__")
  pn := []
  xe := fun e s' => wpAny (model P w) (A.deeper (envS qual scope s.heap.objs.size f cd cc)) (leaving (envS qual scope s.heap.objs.size f cd cc) e) (fun _ s'' => CX outer H s E e s'') (fun e' s'' => CX outer H s E e' s'') s'
section
variable {CX : CXT} {P : Program} {w : World} {K : PySem.W.Frag} {mg : Str → Option Value} {base : Heap} {N ps : List Str} {qual : Str} {scope : Scope} {f cc D : Addr} {cd : Value} {A : Around} {outer : List Env} {s s1 : Shared} {H : Hp} {E : XK} {us : List Value} {vs : List V}
theorem inv_startS {occ : Value} {odc : Option Addr} {oslc : Array (Option Value)} (hcell : K.lookup cc = some ⟨occ, odc, .cell (some (.ref D)), oslc⟩)
    (S : SupScope N ps scope) (hd : A.handled = none) (e0 : Env0 P w K mg base A outer s H) (hl : vs.length = ps.length) (r : Vals vs us)
    (x : InCallC s s.heap.objs.size (bindL (envS qual scope s.heap.objs.size f cd cc).kindOf (ps.zip us) fun _ => none) (ownS scope s.heap.objs.size) (bindC (envS qual scope s.heap.objs.size f cd cc).kindOf (ps.zip us) fun _ => none) s1) :
    Inv (sCx CX P w K mg base N qual scope f cd cc A outer s H E) [] (L2.start N vs) H s1 := by
  have hpl : ps.length ≤ N.length := by have := congrArg List.length S.pre; rw [List.length_take] at this; omega
  obtain ⟨h1, tk, rfl, hk⟩ := x.done
  have cb := e0.mod.kin _ _ hcell
  have cs0 := e0.bs _ _ cb
  have clt : cc < s.heap.objs.size := Heap.lt_size cs0.1
  have lk : ∀ {y : Str} {c : Addr}, (envS qual scope s.heap.objs.size f cd cc).cells.lookup y = some c → (ownS scope s.heap.objs.size).lookup y = some c ∨ ((ownS scope s.heap.objs.size).lookup y = none ∧ y = "__class__" ∧ c = cc) := fun h => look_app h
  have noA : ∀ b : Addr, b ∉ (sCx CX P w K mg base N qual scope f cd cc A outer s H E).ex := fun b z => absurd (show b ∈ ([] : List Addr) from z) (by simp)
  have above : ∀ {y : Str} {c : Addr}, (ownS scope s.heap.objs.size).lookup y = some c → s.heap.objs.size < c := fun h => x.above _ _ (PySem.mem_of_lookup h)
  refine ⟨⟨e0.mod, S.kind, rfl, rfl, Nat.le_refl _, fun y z c h1 h2 => ?_, fun y hy => ?_, fun y c hf h => ?_, fun _ => hd, Around.frames_deeper e0.frames, .inr ⟨rfl, rfl⟩, fun b z => absurd z (noA b), e0.bs, e0.bsz, fun b _ _ => noA b, fun b z => absurd z (noA b), e0.funs, e0.frf⟩,
    rfl, e0.bare, Un.kept hk, ⟨_, x.toInCall.ns, fun i y v h1 h2 h3 => ?_⟩, fun y c h => ?_, e0.hok.fresh (Nat.le_refl _), fun y c h => ?_, fun p hp => absurd (show p ∈ ([] : List (Addr × Obj)) from hp) (by simp), e0.hok.kept hk, ?_⟩
  · rcases lk h1 with a | ⟨_, a, a'⟩ <;> rcases lk h2 with b | ⟨_, b, b'⟩
    · exact name_of_addr x.apart (PySem.mem_of_lookup a) (PySem.mem_of_lookup b)
    · exact absurd (above a) (by rw [b']; exact Nat.lt_asymm clt)
    · exact absurd (above b) (by rw [a']; exact Nat.lt_asymm clt)
    · rw [a, b]
  · have hy : scope.names.lookup y = some .cell ∨ scope.names.lookup y = some .free := hy
    rcases hy with hy | hy
    · obtain ⟨c, e⟩ := cell_has (n := s.heap.objs.size + 1) hy
      exact ⟨c, app_look e⟩
    · have e := S.free _ (PySem.mem_of_lookup hy) rfl
      have e : y = "__class__" := e
      subst e
      show ∃ c, (ownS scope s.heap.objs.size ++ [(("__class__" : Str), cc)]).lookup ("__class__" : Str) = some c
      rw [List.lookup_append]
      cases z : (ownS scope s.heap.objs.size).lookup ("__class__" : Str) with
      | some c => exact ⟨c, rfl⟩
      | none => exact ⟨cc, rfl⟩
  · rcases lk h with a | ⟨_, a, _⟩
    · exact Nat.le_of_lt (above a)
    · have hf : (!decide (y = "__class__")) = true := hf
      rw [a] at hf
      exact absurd hf (by decide)
  · have hi : i < vs.length := by
      unfold L2.start at h2
      by_cases hi : i < vs.length
      · exact hi
      · rw [List.getElem?_append_right (by simpa using hi)] at h2
        rw [List.getElem?_replicate] at h2
        split at h2 <;> cases h2
    have ha : vs[i]? = some v := by
      unfold L2.start at h2
      rw [List.getElem?_append_left (by simpa using hi), List.getElem?_map] at h2
      cases e : vs[i]? with
      | none => rw [e] at h2; cases h2
      | some a => rw [e] at h2; cases h2; rfl
    obtain ⟨u, hu, rv⟩ := r.get ha
    have hp : ps[i]? = some y := by
      rw [← S.pre, List.getElem?_take_of_lt (by omega)]; exact h1
    have ndP : ps.Nodup := by rw [← S.pre]; exact S.nd.sublist (List.take_sublist _ _)
    refine ⟨u, rv, ?_⟩
    rcases S.par y (List.mem_of_getElem? hp) with k | k
    · exact .inl ⟨k, bindL_get ndP hp hu k⟩
    · obtain ⟨c, e⟩ := cell_has (n := s.heap.objs.size + 1) k
      refine .inr ⟨.inl k, c, app_look e, ?_⟩
      have q := x.cell y c e
      rw [bindC_get ndP hp hu (by show scope.names.lookup y ≠ _; rw [k]; decide)] at q
      exact q
  · rcases lk h with a | ⟨_, _, a⟩
    · exact ⟨_, x.cell y c a⟩
    · subst a
      exact ⟨_, _, hk _ _ cs0.1, rfl⟩
  · rcases lk h with a | ⟨_, _, a⟩
    · exact e0.hok.fresh (Nat.le_of_lt (above a))
    · subst a
      exact cs0.2
  · unfold L2.start
    show _ = N.length
    rw [List.length_append, List.length_map, List.length_replicate]
    omega
/-- facts of the main file -/
structure PFile (P : Program) (file : Str) : Prop where
  file : ((P.main.file : Str) == file) = true
  top : (P.main.scope.names.lookup ("super" : Str)).isSome = false
/-- a def that says super() -/
structure SupFn (K : PySem.W.Frag) (x qual : Str) (st : Stmt) (f D : Addr) (fd : FuncData) (file : Str) (cda cc : Addr) : Prop where
  ex : ∃ (oc : Value) (od : Option Addr) (dV kV doc pm : Value) (an : Option Addr) (ct : Value) (osl : Array (Option Value)),
    fd = PySem.W.fnX x qual (defArgs st) (defBody st) (defScope st) [("__class__", cc)] dV kV doc pm an (.ref cda) ct ∧ K.lookup f = some ⟨oc, od, .func fd, osl⟩ ∧ dV = .none
  cd : PySem.W.codeIn K (.ref cda) qual = true
  code : ∃ (ccl : Value) (cdd : Option Addr) (fv : Array Value) (ccs : Array (Option Value)) (tf : Tok), K.lookup cda = some ⟨ccl, cdd, .fields fv, ccs⟩ ∧ fv[2]? = some (.str file tf)
  cell : ∃ (occ : Value) (odc : Option Addr) (oslc : Array (Option Value)), K.lookup cc = some ⟨occ, odc, .cell (some (.ref D)), oslc⟩
  cls : PySem.W.isClsIn K D = true
/-- the first statement is looked at where it stands -/
structure PAt (X : Cx) (body : List Stmt) (e : Expr) (t : TE) : Prop where
  run : ∀ (pins : List (Addr × Obj)) (s : Shared) (σ : L2.St) (H : Hp) (Q : VK), Inv X pins σ H s → t σ H Q → PySem.wpAt (model X.prog X.w) X.A (.func body X.env) (eval e X.env) (EP X pins σ Q) X.xe s
structure SAt (X : Cx) (body ss : List Stmt) (t : TS) : Prop where
  run : ∀ (pins : List (Addr × Obj)) (s : Shared) (σ : L2.St) (H : Hp) (D : Ends), Inv X pins σ H s → t D σ H → PySem.wpAt (model X.prog X.w) X.A (.func body X.env) (execs ss X.env) (SP X pins D) X.xe s
end
section
variable {X : Cx} {body rest : List Stmt} {e : Expr} {te : TE} {t : TS} {pos pos' : Pos}
theorem sat_ret (he : PAt X body e te) : SAt X body [.Return (some e) pos] (tRet te) := by
  refine ⟨fun pins s σ H D I h => ?_⟩
  refine PySem.ks_wpAt_execs_cons (PySem.ks_wpAt_Return_some (PySem.ks_wpAt_mono (he.run pins s σ H _ I h) (fun v s1 ⟨x, H1, I1, r1, q1⟩ => ?_) fun _ _ z => z))
  exact ⟨x, σ, H1, I1, r1, q1⟩
theorem sat_expr (he : PAt X body e te) (hr : PSs X rest t) (hs : swapsWith e none pos.line X.env = pure false := by rfl) : SAt X body (.Expr e pos :: rest) (tSeq (tDrop te) t) := by
  refine ⟨fun pins s σ H D I h => ?_⟩
  refine PySem.ks_wpAt_execs_cons (PySem.ks_wpAt_Expr_any (PySem.ks_wpAt_mono (he.run pins s σ H _ I h) (fun v s1 ⟨x, H1, I1, r1, q1⟩ => ?_) fun _ _ z => z) I.quiet hs)
  exact wpAt_of_wpAny (hr.run pins s1 σ H1 D I1 q1)
theorem sat_set {i : Nat} {x : Str} (hN : X.N.Nodup) (hi : X.N[i]? = some x) (hx : Loc X.env.scope x) (hf : X.fn x = true ∨ X.env.scope.names.lookup x = some .local) (he : PAt X body e te) (hr : PSs X rest t) (hs : swapsWith e (some (.Name x pos')) pos.line X.env = pure false := by rfl) :
    SAt X body (.Assign [.Name x pos'] e pos :: rest) (tSeq (tAsg te (gName i)) t) := by
  refine ⟨fun pins s σ H D I h => ?_⟩
  refine PySem.ks_wpAt_execs_cons (PySem.ks_wpAt_Assign_Name (PySem.ks_wpAt_mono (he.run pins s σ H _ I h) (fun v s1 ⟨x1, H1, I1, r1, q1⟩ => ?_) fun _ _ z => z) hs)
  exact store_ok I1 hN hi hx r1 (fun s2 I2 => wpAt_of_wpAny (hr.run pins s2 _ H1 D I2 q1)) hf
end
/-- what super() of D finds in an instance of C -/
structure SupOf (K : PySem.W.Frag) (C D : Addr) (m : Str) (g : Addr) : Prop where
  sub : PySem.W.mroIn K C (.ref D) = some true
  at_ : PySem.W.ks_superIn K C D m = some (some (.ref g))
  ty : PySem.W.typeIn K (.ref g) = some (.type "function")
  fn : PySem.W.fnIn K g = true
  ne : (m == ("__class__" : Str)) = false
  op : PySem.W.nsIn K PySem.cStatics "thirdparty.any" = some none
def tSup (i : Nat) (C : Addr) (sp : Sp) (t : TA) : TE := fun σ H Q => ∃ x dx fs, σ[i]? = some (some (.ref x)) ∧ H x = some (.ins C dx fs) ∧ t σ H fun vs H1 => sp (.ref x :: vs) H1 Q C8.E0
section
variable {X : Cx} {body : List Stmt} {k : Nat} {C D f g cda cc : Addr} {fd : FuncData} {file m : Str} {sp : Sp} {e : Expr} {es : List Expr} {t : TA} {pos apos p0 p1 : Pos} {i : Nat} {ar : Arg}
/-- super().m(e, ..) -/
theorem pat_super {x qual : Str} {pl : Sem Bool} {st : Stmt} (SF : SupFn X.K x qual st f D fd file cda cc) (PF : PFile X.prog file) (O : SupOf X.K C D m g) (F : FnR X.prog X.w X.K X.mg X.base C8.CX0 k g sp) (hr : Room k X.A) (hfu : X.env.func = some f) (hco : X.env.code = .ref cda)
    (hcc : X.env.cells.lookup ("__class__" : Str) = some cc) (hks : X.env.kindOf "super" = some .globalImplicit) (hkc : X.env.kindOf "__class__" = some .free) (hp : ((defArgs st).posonlyargs ++ (defArgs st).args).head? = some ar) (hka : X.env.kindOf ar.arg = some .local)
    (hN : X.N[i]? = some ar.arg) (hm : X.mg "super" = none) (ha : PA X (e :: es) t)
    (hst : starEach (e :: es) X.env = (false, eval e X.env) :: starEach es X.env := by rfl) (hpl : (backTo pos (starEach es X.env)).any (·.1) = false := by rfl)
    (ht : eval (.Call (.Attribute (.Call (.Name "super" p0) [] [] p1) m apos) (e :: es) [] pos) X.env = (do
      let ov ← attributeBase (.Call (.Name "super" p0) [] [] p1) m X.env (eval (.Call (.Name "super" p0) [] [] p1) X.env)
      standAt apos.atName
      let (f, first) ← holding [ov] (getMethod ov m pl)
      callWith pos f first (backTo pos (starEach (e :: es) X.env)) []) := by rfl) :
    PAt X body (.Call (.Attribute (.Call (.Name "super" p0) [] [] p1) m apos) (e :: es) [] pos) (tSup i C sp t) := by
  refine ⟨fun pins s σ H Q I h => ?_⟩
  obtain ⟨x1, dx, fs, hx, hi, q⟩ := h
  obtain ⟨oc, od, dV, kV, doc, pm, an, ct, osl, rfl, lkf, _⟩ := SF.ex
  obtain ⟨ccl, cdd, fv, ccs, tf, lkc, hfv⟩ := SF.code
  obtain ⟨occ, odc, oslc, lkcell⟩ := SF.cell
  have X0 := I.kIn
  obtain ⟨mA, OM, _, _, _, _⟩ := ins_get I.hok hi
  obtain ⟨cdD, hD⟩ := Option.isSome_iff_exists.mp (show (PySem.W.clsIn X.K D).isSome = true from SF.cls)
  obtain ⟨oD, hD1, hD2⟩ : ∃ oD, s.heap.get? D = some oD ∧ oD.data = .cls cdD := by
    unfold PySem.W.clsIn at hD
    split at hD
    · rename_i c d cd' sl ho
      cases hD
      exact ⟨_, X0 _ _ ho, rfl⟩
    · cases hD
  obtain ⟨mb, b1, b2⟩ := I.mod.blt
  obtain ⟨ml, hns, hloc⟩ := I.loc
  obtain ⟨u, ru, lu⟩ := hloc i ar.arg (.ref x1) hN hx (.inl hka)
  obtain rfl : u = Value.ref x1 := ru
  have lu : ml ar.arg = some (.ref x1) := by
    rcases lu with ⟨_, z⟩ | ⟨z | z, _⟩
    · exact z
    · rw [hka] at z; cases z
    · rw [hka] at z; cases z
  refine PySem.ks_wpAt_MethodCall (pl := pl) ?_ ht
  refine PySem.ks_wpAt_super_base (env := X.env) (ar := ar) hks hkc O.ne hfu (X0 _ _ lkf) rfl hp hco (X0 _ _ lkc) rfl hfv PF.file PF.top ?_
  refine PySem.W.ks_loadName_global I.ok.kind hks (PySem.Calls.loadGlobal_builtin (by rw [I.ok.glob]; exact I.mod.glob.keeps I.bk) hm (by rw [I.ok.blt]; exact b1.keeps I.bk) ((b2 _ (by decide +kernel)).trans (by decide +kernel)) ⟨rfl, ?_⟩)
  refine wpAny_loadName_free I.ok.kind hkc hcc ⟨_, X0 _ _ lkcell, rfl⟩ ?_
  refine wpAny_loadName_local I.ok.kind hka hns lu ?_
  refine PySem.ks_wpAny_isType_cls hD1 hD2 ⟨rfl, ?_⟩
  refine PySem.ks_wpAny_call_super hD1 hD2 OM.obj rfl (fun c z => by cases z) (PySem.W.looks_mroIn X0 O.sub) (fun h' e1 k1 => ?_)
  have I1 : Inv X pins σ H { s with heap := h' } := I.kept (t' := s.toks) k1
  have X1 := I1.kIn
  obtain ⟨cd, hcd⟩ : ∃ cd, PySem.W.clsIn X.K C = some cd := by
    have z := O.at_
    unfold PySem.W.ks_superIn at z
    cases hc : PySem.W.clsIn X.K C with
    | none => rw [hc] at z; cases z
    | some cd => exact ⟨cd, rfl⟩
  have hal : PySem.W.alongIn X.K m ((cd.mro.dropWhile (· != .ref D)).drop 1) = some (some (.ref g)) := by
    have z := O.at_
    unfold PySem.W.ks_superIn at z
    rw [hcd] at z
    exact z
  obtain ⟨of, hof, hofc⟩ : ∃ of, h'.get? g = some of ∧ of.cls = .type "function" := by
    have ht' : (X.K.lookup g).map (·.cls) = some (.type "function") := O.ty
    cases z : X.K.lookup g with
    | none => rw [z] at ht'; cases ht'
    | some of => rw [z] at ht'; exact ⟨of, X1 _ _ z, Option.some.inj ht'⟩
  have J : PySem.W.InstAt h' x1 (PySem.W.instObj C dx) C (some (OM.ns.choose)) := by
    obtain ⟨es, ep, ho, _⟩ := OM.ns.choose_spec
    exact ⟨k1 _ _ OM.obj, rfl, rfl, k1 _ _ ho⟩
  refine PySem.ks_wpAny_getMethod_super e1 (PySem.W.looks_opaque X1 O.op) (l₀ := cd.mro) ?_ rfl X1 hal hof hofc (PySem.W.ks_ne X1 J hcd) O.ne ?_
  · exact fun A Q E s k q => wpAny_bind ((PySem.W.looks_clsIn X1 hcd) A _ E s k (wpAny_pure q))
  · have I2 := met_new (g := g) (C := x1) I1
    refine callwith_cm I2 (base_none I1 (Nat.le_refl _)) O.fn (thn (ha.run pos _ _ σ H _ I2 q) fun us s3 ⟨vs, H2, I3, rv, q2⟩ => ⟨⟨pin_at I3, I3.kIn⟩, ?_⟩) hst hpl
    exact run_cm F hr C8.pass0 I3 rv q2
end
section
variable {P : Program} {w : World} {K : PySem.W.Frag} {mg : Str → Option Value} {base : Heap}
/-- the def by its body -/
theorem fn_super {x qual : Str} {st : Stmt} {f D cda cc : Addr} {fd : FuncData} {file : Str} {N ps : List Str} {k : Nat} {sp : Sp} (SF : SupFn K x qual st f D fd file cda cc) (S : SupScope N ps (defScope st)) (len : ∀ vs H Q E, sp vs H Q E → vs.length = ps.length)
    (hbody : ∀ (A : Around) (outer : List Env) (s : Shared) (H : Hp) (vs : List V) (Q : VK) (E : XK), Room k (A.deeper (envS qual (defScope st) s.heap.objs.size f (.ref cda) cc)) → sp vs H Q E →
      ∃ t, SAt (sCx C8.CX0 P w K mg base N qual (defScope st) f (.ref cda) cc A outer s H E) (defBody st) (defBody st) t ∧ t { nx := fun _ H' => Q .non H', rt := Q } (L2.start N vs) H) : FnOk P w K mg base C8.CX0 (k + 1) f fd ps sp := by
  refine ⟨len, fun A outer s H args us vs Q E hr e0 hb r hsp => ?_⟩
  obtain ⟨oc, od, dV, kV, doc, pm, an, ct, osl, rfl, lk, _⟩ := SF.ex
  obtain ⟨occ, odc, oslc, lkcell⟩ := SF.cell
  have hl := len _ _ _ _ hsp
  have KX : K.In s.heap := e0.mod.kin.keeps fun b o e => (e0.bs b o e).1
  have lim : s.heap.NoLimit := e0.mod.nolimit.keeps fun b o e => (e0.bs b o e).1
  have hkind : ∀ y ∈ ps.zip us, (defScope st).names.lookup y.1 = some .local ∨ ((defScope st).names.lookup y.1 = some .cell ∧ ∃ c, (ownS (defScope st) s.heap.objs.size).lookup y.1 = some c) := fun ⟨n, v⟩ hy => by
    rcases S.par n (List.of_mem_zip hy).1 with q | q
    · exact .inl q
    · exact .inr ⟨q, cell_has q⟩
  refine codeAny_call_function hr.depth (KX _ _ lk) rfl S.co S.gen rfl (PySem.W.codeRec_of KX SF.cd) (hb _ _ _ _ ?_)
  refine newEnvS (f := f) (cc := cc) S.kind hkind fun s1 x1 => ?_
  refine ⟨lim.keeps x1.toInCall.keep, PySem.ks_codeAny_funcAt ?_⟩
  obtain ⟨t, ht, hq⟩ := hbody A outer s H vs Q E (hr.deeper _) hsp
  have I : Inv (sCx C8.CX0 P w K mg base N qual (defScope st) f (.ref cda) cc A outer s H E) [] (L2.start N vs) H s1 := inv_startS lkcell S hr.hd e0 hl r x1
  refine PySem.ks_wpAt_mono (ht.run [] s1 (L2.start N vs) H _ I hq) (fun fl s' hs => ?_) fun e s' hs => hs
  have fin : ∀ {σ' : L2.St} {H' : Hp} {v : V} {u : Value}, Inv (sCx C8.CX0 P w K mg base N qual (defScope st) f (.ref cda) cc A outer s H E) [] σ' H' s' → L2.RelV v u → Q v H' → CE outer P w H s Q u s' :=
    fun {σ' H' v u} J rv q => ⟨v, H', J.os, J.bare, J.base, J.hok, rv, q⟩
  cases fl with
  | ret u =>
    obtain ⟨v, σ', H', J, rv, q⟩ := hs
    exact fin J rv q
  | next =>
    obtain ⟨σ', H', J, q⟩ := hs
    exact fin (v := V.non) (u := Value.none) J rfl q
  | brk =>
    obtain ⟨_, _, _, q⟩ := hs
    exact False.elim q
  | cont =>
    obtain ⟨_, _, _, q⟩ := hs
    exact False.elim q
end
end Mz
namespace Mz
open PySem PySem.Spec PyProof.Rows L2 He C8
theorem inV_nat (x : Nat) : ∀ A : List Nat, inV (nV x) (A.map nV) = decide (x ∈ A)
  | [] => rfl
  | a :: A => by
    have ih := inV_nat x A
    have e : inV (nV x) ((a :: A).map nV) = (eqV (nV a) (nV x) || inV (nV x) (A.map nV)) := rfl
    rw [e, ih]
    have e2 : eqV (nV a) (nV x) = decide (x = a) := by
      show (((a : Nat) : Int) == ((x : Nat) : Int)) = _
      by_cases h : x = a
      · subst h
        simp
      · rw [decide_eq_false h, beq_eq_false_iff_ne]
        omega
    rw [e2, ← Bool.decide_or]
    congr 1
    simp [List.mem_cons]
theorem flat_nat (A : List Nat) : (A.map nV).all flatV = true := by
  rw [List.all_eq_true]
  intro x hx
  obtain ⟨a, _, rfl⟩ := List.mem_map.mp hx
  rfl
/-- a person's class -/
structure PC (K : PySem.W.Frag) (C : Addr) : Prop where
  cl : Cls K C
  size : NoAttr K C "size"
  ears : NoAttr K C "ears"
  mouths : NoAttr K C "mouths"
  sure : NoAttr K C "sure_words"
  heard : Meth K C "heard" (ma K (ga K "Person") "heard")
/-- a person: what they hear, what they say -/
def PerAt (K : PySem.W.Frag) (H : Hp) (p C : Addr) (n : Nat) (A : List Nat) (S : List (List Nat)) (ex : List (Str × V)) : Prop :=
  ∃ dx e m ms, H p = some (.ins C dx (("size", nV n) :: ("ears", .ref e) :: ("mouths", .ref m) :: ex)) ∧ H e = some (ntup A) ∧ H m = some (.tup (ms.map V.ref)) ∧ Pts H ms (S.map ntup)
theorem PerAt.same {K : PySem.W.Frag} {H H' : Hp} {p C : Addr} {n : Nat} {A : List Nat} {S : List (List Nat)} {ex : List (Str × V)} (h : PerAt K H p C n A S ex) (e : Same H H') : PerAt K H' p C n A S ex := by
  obtain ⟨dx, a, m, ms, h1, h2, h3, h4⟩ := h
  exact ⟨dx, a, m, ms, e _ _ h1, e _ _ h2, e _ _ h3, h4.same e⟩
/-- what is heard, what is said -/
structure PerOk (n : Nat) (A : List Nat) (S : List (List Nat)) : Prop where
  n1 : 1 ≤ n
  n3 : n ≤ 3
  la : A.length = n
  ls : S.length = n
  ha : ∀ a ∈ A, a < n
def pSaid (n : Nat) (A : List Nat) (S : List (List Nat)) (i : Nat) : List Nat := (List.range n).filter fun o => decide (o ∈ S.getD (A.getD i 0) [])
/-- attributes that are no names of methods -/
structure ExOk (ex : List (Str × V)) : Prop where
  heard : ex.lookup ("heard" : Str) = none
  said : ex.lookup ("said" : Str) = none
  few : ex.length < 900
def spTableOfMasks (K : PySem.W.Frag) : Sp := fun vs H Q _ => ∃ (t : Addr) (M : List Nat), vs = [.ref t] ∧ H t = some (ntup M) ∧ Sm M ∧ 1 ≤ M.length ∧ (∀ m ∈ M, m < 2 ^ M.length) ∧ RT K H M Q
def spCheckPerson : Sp := fun vs H Q _ => ∃ (a s : Addr) (A : List Nat) (S : List (List Nat)), vs = [.ref a, .ref s] ∧ H a = some (nlst A) ∧ RowsAt H s S ∧ PerOk A.length A S ∧ (∀ r ∈ S, r ≠ [] ∧ ∀ o ∈ r, o < A.length) ∧ Q .non H
def spPersonInit (K : PySem.W.Frag) (C : Addr) : Sp := fun vs H Q _ => ∃ (x dx a s : Addr) (A : List Nat) (S : List (List Nat)), vs = [.ref x, .ref a, .ref s] ∧ H x = some (.ins C dx []) ∧ H a = some (nlst A) ∧ RowsAt H s S ∧ PerOk A.length A S ∧ (∀ r ∈ S, r ≠ [] ∧ ∀ o ∈ r, o < A.length) ∧
  ∀ H', SameX x H H' → PerAt K H' x C A.length A S [] → Q .non H'
def spPersonHeard (K : PySem.W.Frag) (C : Addr) : Sp := fun vs H Q _ => ∃ (p : Addr) (n : Nat) (A : List Nat) (S : List (List Nat)) (ex : List (Str × V)) (i : Nat), vs = [.ref p, nV i] ∧ PerAt K H p C n A S ex ∧ PerOk n A S ∧ i < n ∧ Q (nV (A.getD i 0)) H
def spPersonSaid (K : PySem.W.Frag) (C : Addr) : Sp := fun vs H Q _ => ∃ (p : Addr) (n : Nat) (A : List Nat) (S : List (List Nat)) (ex : List (Str × V)) (i : Nat), vs = [.ref p, nV i] ∧ PerAt K H p C n A S ex ∧ PerOk n A S ∧ ExOk ex ∧ i < n ∧ RN H (nlst (pSaid n A S i)) Q
section
variable {P : Program} {w : World} {K : PySem.W.Frag} {mg : Str → Option Value} {base : Heap}
theorem k_Table (T : Tx K mg) : Mak P w K mg base 3 "Table" (ga K "Table") (spTableInit K) [] := by
  obtain ⟨fd, F, b⟩ := f_Table___init__ (P := P) (w := w) (base := base) T
  exact ⟨_, fd, _, [], T.k_Table, F, T.g_Table, b, .nil⟩
/-- Table(rows) -/
theorem mkTable {H : Hp} {l : Addr} {M : List Nat} {Q : VK} {E : XK} (hR : RowsAt H l (M.map Mu.bitsL)) (hM : Sm M) (h1 : 1 ≤ M.length) (hb : ∀ m ∈ M, m < 2 ^ M.length) (k : RT K H M Q) :
    ∀ x dx, H x = none → H dx = none → dx ≠ x → spTableInit K (.ref x :: ([.ref l] ++ [])) (L2.upd (L2.upd H dx (.own x)) x (.ins (ga K "Table") dx [])) (fun v H2 => v = .non ∧ Q (.ref x) H2) E := by
  intro x dx hx hdx ne
  have e0 : Same H (L2.upd (L2.upd H dx (.own x)) x (.ins (ga K "Table") dx [])) := Same.updn (Same.upd (Same.refl _) hdx) hx
  refine ⟨x, l, dx, M, rfl, upd_same, hR.same e0, hM, h1, hb, fun H' e t => ⟨rfl, k H' x (fun b o h => ?_) hx t⟩⟩
  exact e b o (ne_of_none h hx) (e0 b o h)
theorem scTableOfMasks : FnScope ["masks", "mask"] ["masks"] (defScope sTableOfMasks) := fnScope_by (by decide +kernel)
theorem c_table_of_masks (T : Tx K mg) : Cal P w K mg base 5 "table_of_masks" (spTableOfMasks K) [] := by
  refine calD T.d_table_of_masks T.g_table_of_masks scTableOfMasks (fun _ _ _ _ _ _ us hl => match us, hl with | [_], _ => rfl) (fun vs H Q E h => ?_) (fun cdv A outer s H vs Q E hr h => ?_)
  · obtain ⟨_, _, rfl, _⟩ := h
    rfl
  · obtain ⟨t, M, rfl, ht, hM, h1, hb, k⟩ := h
    have hu := hu_of hr
    refine ⟨_, (pss_one (ps_ret (pe_mk (k_Table T) hr (by decide) rfl (pa_cons (pe_lc (own := [("mask", 1)]) (g := gName 1) (tt := tYes)  (rfl) scTableOfMasks.nd (pi_tup (pv 0)) (blkOk_by (own := [("mask", 1)]) (N := ["masks", "mask"]) (sc := defScope sTableOfMasks) (by decide +kernel)) (fun _ _ _ _ _ => pg_name (i := 1) scTableOfMasks.nd rfl (Or.inl rfl)) (fun _ _ _ _ _ => pts_nil) (fun _ _ _ _ _ => (pe_c (c_bits T) hr (by decide) rfl (pa_cons (pv 1) pa_nil)))) pa_nil)))), ?_⟩
    refine ⟨_, rfl, t, rfl, ⟨_, SqT.of ht⟩, fun D hD => ?_⟩
    refine lc_keep (walk_tup (xs := M.map nV)) hD (fun i H' acc => ∃ ls : List Addr, acc = ls.map V.ref ∧ Pts H' ls (((M.take i).map Mu.bitsL).map nlst) ∧ D ∉ ls) ⟨[], rfl, Pts.nil, by simp⟩ (fun H' e => SqT.of (e _ _ ht)) ?_ ?_
    · rintro i x H1 H2 acc hi e hD1 ⟨ls, rfl, hp, hDl⟩ ⟨rfl, hx⟩
      obtain ⟨y, hy, rfl⟩ := nlst_get hx
      rw [List.length_map] at hi
      have hM3 := hM.1
      have hll : ls.length = i := by
        have := hp.1
        simp at this
        omega
      refine ⟨rfl, _, rfl, y, rfl, hM.2 _ (List.mem_of_getElem? hy), fun H3 b e3 hb3 hb3' => PvK.more hD (e.trans e3) (e3 _ _ hD1) ?_ ⟨ls ++ [b], by simp, ?_, ?_⟩⟩
      · rw [List.length_map, hll]
        omega
      · rw [List.take_add_one, hy]
        simp only [Option.toList_some, List.map_append, List.map_cons, List.map_nil]
        refine Pts.upd ((hp.same e3).snoc hb3') ?_
        intro z
        rcases List.mem_append.mp z with z | z
        · exact hDl z
        · have : D = b := by simpa using z
          rw [← this, hD1] at hb3
          cases hb3
      · intro z
        rcases List.mem_append.mp z with z | z
        · exact hDl z
        · have : D = b := by simpa using z
          rw [← this, hD1] at hb3
          cases hb3
    · rintro H' acc e hD' ⟨ls, rfl, hp, hDl⟩
      rw [List.length_map, List.take_length] at hp
      exact mkTable ⟨ls, hD', hp⟩ hM h1 hb (k.same e)
end
end Mz
namespace Mz
open PySem PySem.Spec PyProof.Rows L2 He C8
theorem getD_at {α : Type} {l : List α} {k : Nat} {d : α} (h : k < l.length) : l[k]? = some (l.getD k d) := by
  rw [List.getD_eq_getElem?_getD, List.getElem?_eq_getElem h]
  rfl
theorem Pts.notin {H : Hp} {ls : List Addr} {os : List HO} {x : Addr} {o : HO} (h : Pts H ls os) (hx : H x = some o) (d : ∀ u ∈ os, u ≠ o) : x ∉ ls := fun z => by
  obtain ⟨i, hi⟩ := List.mem_iff_getElem?.mp z
  have hl : i < os.length := by
    rw [← h.1]
    exact (List.getElem?_eq_some_iff.mp hi).1
  have e := h.2 i x os[i] hi (List.getElem?_eq_getElem hl)
  rw [hx] at e
  exact d _ (List.getElem_mem hl) (Option.some.inj e).symm
section
variable {P : Program} {w : World} {K : PySem.W.Frag} {mg : Str → Option Value} {base : Heap}
theorem scCheckPerson : FnScope ["hears", "says", "size", "row"] ["hears", "says"] (defScope sCheckPerson) := fnScope_by (by decide +kernel)
theorem c_check_person (T : Tx K mg) : Cal P w K mg base 2 "check_person" spCheckPerson [] := by
  refine calD T.d_check_person T.g_check_person scCheckPerson (fun _ _ _ _ _ _ us hl => match us, hl with | [_, _], _ => rfl) (fun vs H Q E h => ?_) (fun cdv A outer s H vs Q E hr h => ?_)
  · obtain ⟨_, _, _, _, rfl, _⟩ := h
    rfl
  · obtain ⟨a, s1, A, S, rfl, ha, ⟨ls, hl, hp⟩, ok, hS, k⟩ := h
    have hu := hu_of hr
    refine ⟨_, (pss_cons (ps_set (i := 2) scCheckPerson.nd rfl (Or.inl rfl) (pe_callB (call_lenK (K := K) rfl) (by rfl) T.z_len PySem.boot_len (pa_cons (pv 0) pa_nil)))
      (pss_cons (ps_if (PW.pt (pw_or (pt_cmpR op_lt (pv 2) pe_int (nomark _)) (pw_or (pt_cmpR op_gt (pv 2) (gc_GREATEST_SIZE T) (nomark _)) (pw_or1 (pt_not (pt_val (pe_c (c_all_words T) hr (by decide) rfl (pa_cons (pv 2) (pa_cons (pv 0) pa_nil)))))))))
        (pss_one ps_never)
        pss_nil)
      (pss_cons (ps_if (pt_cmpR op_ne (pe_callB (call_lenK (K := K) rfl) (by rfl) T.z_len PySem.boot_len (pa_cons (pv 1) pa_nil)) (pv 2) (nomark _))
        (pss_one ps_never)
        pss_nil)
      (pss_one (ps_for PassesOwn.never rfl (pi_list (pv 1)) (pg_name (i := 3) scCheckPerson.nd rfl (Or.inl rfl))
        (pss_one (ps_if (PW.pt (pw_or (pt_cmpR op_eq (pe_callB (call_lenK (K := K) rfl) (by rfl) T.z_len PySem.boot_len (pa_cons (pv 3) pa_nil)) pe_int (nomark _)) (pw_or1 (pt_not (pt_val (pe_c (c_all_words T) hr (by decide) rfl (pa_cons (pv 2) (pa_cons (pv 3) pa_nil))))))))
          (pss_one ps_never)
          pss_nil))))))), ?_⟩
    have hlen : ls.length = S.length := by
      have := hp.1
      simp at this
      exact this
    have n1 := ok.n1
    have n3 := ok.n3
    have lS := ok.ls
    refine ⟨_, rfl, a, _, rfl, .inl (SqL.of ha), ?_⟩
    rw [List.length_map]
    refine ⟨_, rfl, _, _, rfl, rfl, _, rfl, ?_⟩
    rw [decide_eq_false (show ¬ ((A.length : Nat) : Int) < 1 by omega)]
    refine iteF ⟨_, rfl, _, _, rfl, rfl, _, rfl, ?_⟩
    rw [decide_eq_false (show ¬ (6 : Int) < ((A.length : Nat) : Int) by omega)]
    refine iteF ⟨_, rfl, _, rfl, A.length, a, A, rfl, ha, ok.ha, _, rfl, ?_⟩
    refine iteF ⟨_, rfl, s1, _, rfl, .inl (SqL.of hl), _, rfl, rfl, _, rfl, ?_⟩
    refine iteNS (by rw [List.length_map, hlen, lS]) ?_
    refine ⟨_, rfl, s1, rfl, ⟨_, SqL.of hl⟩, for_it (walk_list (xs := ls.map V.ref)) (fun i σ H' => H' = H ∧ ∃ z, σ = [some (.ref a), some (.ref s1), some (nV A.length), z]) ⟨rfl, _, rfl⟩ (fun i σ H' _ h => by rw [h.1]; exact SqL.of hl) ?_ ?_⟩
    · rintro i x σ H1 H2 hi ⟨rfl, z, rfl⟩ ⟨rfl, hx⟩
      rw [List.length_map] at hi
      have hiS : i < S.length := by omega
      obtain ⟨b, hb, hB⟩ := hp.get (i := i) (o := nlst S[i]) (by simp [hiS])
      rw [List.getElem?_map, hb] at hx
      cases hx
      obtain ⟨hne, hlt⟩ := hS _ (List.getElem_mem hiS)
      have hpos : 0 < S[i].length := List.length_pos_iff.mpr hne
      refine ⟨_, rfl, b, _, rfl, .inl (SqL.of hB), rfl, _, rfl, ?_⟩
      rw [dec_int, List.length_map, beq_eq_false_iff_ne.mpr (show ¬ ((S[i].length : Nat) : Int) = 0 by omega)]
      refine iteF ⟨_, rfl, _, rfl, A.length, b, S[i], rfl, hB, hlt, _, rfl, ?_⟩
      exact iteF ⟨rfl, some (.ref b), rfl⟩
    · rintro σ H' ⟨rfl, z, rfl⟩
      exact k
theorem scPersonInit : FnScope ["self", "hears", "says", "row"] ["self", "hears", "says"] (defScope sPerson_Init) := fnScope_by (by decide +kernel)
theorem f_Person___init__ (T : Tx K mg) {C : Addr} (pc : PC K C) : ∃ fd, FnOk P w K mg base C8.CX0 3 (ma K (ga K "Person") "__init__") fd ["self", "hears", "says"] (spPersonInit K C) ∧ Binds K fd ["self", "hears", "says"] [] := by
  refine fnM T.m_Person___init__ scPersonInit (fun _ _ _ _ _ _ us hl => match us, hl with | [_, _, _], _ => rfl) (fun vs H Q E h => ?_) (fun cdv A outer s H vs Q E hr h => ?_)
  · obtain ⟨_, _, _, _, _, _, rfl, _⟩ := h
    rfl
  · obtain ⟨x, dx, a, s1, A, S, rfl, hx, ha, hR, ok, hS, k⟩ := h
    have hu := hu_of hr
    refine ⟨_, (pss_cons (ps_expr (pe_c (c_check_person T) hr (by decide) rfl (pa_cons (pv 1) (pa_cons (pv 2) pa_nil))))
      (pss_cons (ps_fld (pv 0) (pe_callB (call_lenK (K := K) rfl) (by rfl) T.z_len PySem.boot_len (pa_cons (pv 1) pa_nil)) rfl)
      (pss_cons (ps_fld (pv 0) (pe_callTy (call_tuple_ofK (K := K) rfl) (by rfl) T.z_tuple (by decide +kernel) (pa_cons (pv 1) pa_nil)) rfl)
      (pss_one (ps_fld (pv 0) (pe_callTy (call_tuple_ofK (K := K) rfl) (by rfl) T.z_tuple (by decide +kernel) (pa_cons (pe_lc (own := [("row", 3)]) (g := gName 3) (tt := tYes)  (rfl) scPersonInit.nd (pi_list (pv 2)) (blkOk_by (own := [("row", 3)]) (N := ["self", "hears", "says", "row"]) (sc := defScope sPerson_Init) (by decide +kernel)) (fun _ _ _ _ _ => pg_name (i := 3) scPersonInit.nd rfl (Or.inl rfl)) (fun _ _ _ _ _ => pts_nil) (fun _ _ _ _ _ => (pe_callTy (call_tuple_ofK (K := K) rfl) (by rfl) T.z_tuple (by decide +kernel) (pa_cons (pv 3) pa_nil)))) pa_nil)) rfl))))), ?_⟩
    have e1 : ∀ {H2 : Hp}, SameX x H H2 → H2 a = some (nlst A) ∧ RowsAt H2 s1 S := fun e => ⟨e _ _ (ne_of ha hx (fun z => by unfold nlst at z; cases z)) ha, hR.sameX e hx odd_ins⟩
    refine ⟨_, rfl, _, rfl, a, s1, A, S, rfl, ha, hR, ok, hS, ?_⟩
    refine ⟨_, rfl, a, _, rfl, .inl (SqL.of ha), _, rfl, x, _, dx, [], rfl, hx, pc.cl, pc.size, by decide, ?_⟩
    rw [show HO.ins C dx (putF "size" (V.int (((A.map nV).length : Nat) : Int)) []) = .ins C dx [("size", nV A.length)] by rw [List.length_map]; rfl]
    have q1 : SameX x H (L2.upd H x (.ins C dx [("size", nV A.length)])) := SameX.upd SameX.refl
    refine ⟨_, rfl, a, _, rfl, .inl ⟨SqL.of (e1 q1).1, fun t ht => ?_⟩⟩
    have q2 : SameX x H (L2.upd (L2.upd H x (.ins C dx [("size", nV A.length)])) t (.tup (A.map nV))) := q1.trans (SameX.of (Same.upd (Same.refl _) ht))
    have tx : t ≠ x := fun z => by
      rw [z, upd_same] at ht
      cases ht
    refine ⟨_, rfl, x, _, dx, _, rfl, by rw [upd_ne tx.symm, upd_same], pc.cl, pc.ears, by show 1 < 1000; decide, ?_⟩
    rw [show HO.ins C dx (putF "ears" (V.ref t) [("size", nV A.length)]) = .ins C dx [("size", nV A.length), ("ears", .ref t)] from rfl]
    have q3 := q2.upd (o := .ins C dx [("size", nV A.length), ("ears", .ref t)])
    generalize hH3 : L2.upd (L2.upd (L2.upd H x (.ins C dx [("size", nV A.length)])) t (.tup (A.map nV))) x (.ins C dx [("size", nV A.length), ("ears", .ref t)]) = H3 at q3 ⊢
    have x3 : H3 x = some (.ins C dx [("size", nV A.length), ("ears", .ref t)]) := by rw [← hH3, upd_same]
    have t3 : H3 t = some (ntup A) := by rw [← hH3, upd_ne tx, upd_same]; rfl
    obtain ⟨ls, hl, hp⟩ := (e1 q3).2
    have hlen : ls.length = S.length := by
      have := hp.1
      simp at this
      exact this
    have n3 := ok.n3
    have lS := ok.ls
    refine ⟨_, rfl, s1, rfl, ⟨_, SqL.of hl⟩, fun D hD => ?_⟩
    refine lc_keep (walk_list (xs := ls.map V.ref)) hD (fun i H' acc => ∃ ms : List Addr, acc = ms.map V.ref ∧ Pts H' ms ((S.take i).map ntup) ∧ D ∉ ms) ⟨[], rfl, Pts.nil, by simp⟩ (fun H' e => SqL.of (e _ _ hl)) ?_ ?_
    · rintro i v H4 H5 acc hi e hD1 ⟨ms, rfl, hm, hDm⟩ ⟨rfl, hv⟩
      rw [List.length_map] at hi
      have hiS : i < S.length := by omega
      obtain ⟨b, hb, hB⟩ := hp.get (i := i) (o := nlst S[i]) (by simp [hiS])
      rw [List.getElem?_map, hb] at hv
      cases hv
      have hml : ms.length = i := by
        have := hm.1
        simp at this
        omega
      refine ⟨rfl, _, rfl, b, _, rfl, .inl ⟨SqL.of (e _ _ hB), fun t2 ht2 => PvK.more (acc := ms.map V.ref) hD (Same.upd e ht2) ?_ ?_ ⟨ms ++ [t2], by simp, ?_, ?_⟩⟩⟩
      · rw [upd_ne (ne_of_none hD1 ht2)]
        exact hD1
      · rw [List.length_map, hml]
        omega
      · rw [List.take_add_one, List.getElem?_eq_getElem hiS]
        simp only [Option.toList_some, List.map_append, List.map_cons, List.map_nil]
        refine Pts.upd ((hm.same (Same.upd (Same.refl _) ht2)).snoc (by rw [upd_same]; rfl)) ?_
        intro z
        rcases List.mem_append.mp z with z | z
        · exact hDm z
        · have : D = t2 := by simpa using z
          rw [← this, hD1] at ht2
          cases ht2
      · intro z
        rcases List.mem_append.mp z with z | z
        · exact hDm z
        · have : D = t2 := by simpa using z
          rw [← this, hD1] at ht2
          cases ht2
    · rintro H' acc e hD' ⟨ms, rfl, hm, hDm⟩
      rw [List.length_map, hlen, List.take_length] at hm
      refine ⟨D, _, rfl, .inl ⟨SqL.of hD', fun m hm2 => ?_⟩⟩
      have e6 : Same H3 (L2.upd H' m (.tup (ms.map V.ref))) := Same.upd e hm2
      have mx : m ≠ x := fun z => by
        rw [z, e _ _ x3] at hm2
        cases hm2
      refine ⟨_, rfl, x, _, dx, _, rfl, e6 _ _ x3, pc.cl, pc.mouths, by show 2 < 1000; decide, ?_⟩
      refine k _ ((q3.trans (SameX.of e6)).upd) ⟨dx, t, m, ms, upd_same, ?_, ?_, ?_⟩
      · rw [upd_ne tx]
        exact e6 _ _ t3
      · rw [upd_ne mx, upd_same]
      · refine (hm.same (Same.upd (Same.refl _) hm2)).upd ?_
        refine Pts.notin hm (e _ _ x3) ?_
        intro u hu z
        obtain ⟨r, _, rfl⟩ := List.mem_map.mp hu
        unfold ntup at z
        cases z
theorem scPersonHeard : FnScope ["self", "word"] ["self", "word"] (defScope sPerson_Heard) := fnScope_by (by decide +kernel)
theorem f_Person_heard (T : Tx K mg) {C : Addr} (pc : PC K C) : ∃ fd, FnOk P w K mg base C8.CX0 2 (ma K (ga K "Person") "heard") fd ["self", "word"] (spPersonHeard K C) ∧ Binds K fd ["self", "word"] [] := by
  refine fnM T.m_Person_heard scPersonHeard (fun _ _ _ _ _ _ us hl => match us, hl with | [_, _], _ => rfl) (fun vs H Q E h => ?_) (fun cdv A outer s H vs Q E hr h => ?_)
  · obtain ⟨_, _, _, _, _, _, rfl, _⟩ := h
    rfl
  · obtain ⟨p, n, A, S, ex, i, rfl, ⟨dx, e, m, ms, hp, he, hm, hP⟩, ok, hi, k⟩ := h
    have hu := hu_of hr
    refine ⟨_, (pss_cons (ps_expr (pe_c (c_check_word T) hr (by decide) rfl (pa_cons (pe_fldK (K := K) rfl (pv 0) rfl) (pa_cons (pv 1) pa_nil))))
      (pss_one (ps_ret (pe_ix (ix_tupK (K := K) rfl) (pe_fldK (K := K) rfl (pv 0) rfl) (pv 1) (fun _ _ => rfl))))), ?_⟩
    refine ⟨_, rfl, p, C, dx, _, _, rfl, hp, pc.cl, pc.size, rfl, _, rfl, n, i, rfl, hi, ?_⟩
    refine ⟨_, rfl, p, C, dx, _, _, rfl, hp, pc.cl, pc.ears, rfl, _, rfl, e, _, _, nV (A.getD i 0), rfl, rfl, SqT.of he, ?_, k⟩
    have hiA : i < A.length := by rw [ok.la]; exact hi
    exact atI_nat (by rw [List.getElem?_map, getD_at hiA]; rfl)
theorem m_heard (T : Tx K mg) {C : Addr} (pc : PC K C) : Met P w K mg base 2 C "heard" (spPersonHeard K C) [] := by
  obtain ⟨fd, F, b⟩ := f_Person_heard (P := P) (w := w) (base := base) T pc
  exact ⟨_, fd, _, [], pc.cl, pc.heard, F, b, .nil⟩
theorem scPersonSaid : FnScope ["self", "word", "heard", "out"] ["self", "word"] (defScope sPerson_Said) := fnScope_by (by decide +kernel)
theorem f_Person_said (T : Tx K mg) {C : Addr} (pc : PC K C) : ∃ fd, FnOk P w K mg base C8.CX0 3 (ma K (ga K "Person") "said") fd ["self", "word"] (spPersonSaid K C) ∧ Binds K fd ["self", "word"] [] := by
  refine fnM T.m_Person_said scPersonSaid (fun _ _ _ _ _ _ us hl => match us, hl with | [_, _], _ => rfl) (fun vs H Q E h => ?_) (fun cdv A outer s H vs Q E hr h => ?_)
  · obtain ⟨_, _, _, _, _, _, rfl, _⟩ := h
    rfl
  · obtain ⟨p, n, A, S, ex, i, rfl, ⟨dx, e, m, ms, hp, he, hm, hP⟩, ok, exo, hi, k⟩ := h
    have hu := hu_of hr
    refine ⟨_, (pss_cons (ps_set (i := 2) scPersonSaid.nd rfl (Or.inr rfl) (pe_ix (ix_tupK (K := K) rfl) (pe_fldK (K := K) rfl (pv 0) rfl) (pe_mt (m_heard T pc) hr (by decide) (pv 0) (pa_cons (pv 1) pa_nil)) (fun _ _ => rfl)))
      (pss_one (ps_ret (pe_lc (own := [("out", 3)]) (g := gName 3)  (rfl) scPersonSaid.nd (pi_range1 rfl T.z_range (pa_cons (pe_fldK (K := K) rfl (pv 0) rfl) pa_nil)) (blkOk_by (own := [("out", 3)]) (N := ["self", "word", "heard", "out"]) (sc := defScope sPerson_Said) (by decide +kernel)) (fun _ _ _ _ _ => pg_name (i := 3) scPersonSaid.nd rfl (Or.inl rfl)) (fun _ _ _ _ _ => (pts_one (pt_cmpR (op_inK (K := K) rfl) (pv 3) (pv 2) (by rfl)))) (fun _ _ _ _ _ => (pv 3)))))), ?_⟩
    have hn3 := ok.n3
    have ha : A.getD i 0 < n := by
      have hiA : i < A.length := by rw [ok.la]; exact hi
      rw [List.getD_eq_getElem?_getD, List.getElem?_eq_getElem hiA]
      exact ok.ha _ (List.getElem_mem _)
    have haS : A.getD i 0 < S.length := by rw [ok.ls]; exact ha
    obtain ⟨b, hb, hB⟩ := hP.get (i := A.getD i 0) (o := ntup (S.getD (A.getD i 0) [])) (by rw [List.getElem?_map, getD_at haS]; rfl)
    refine ⟨_, rfl, p, C, dx, _, _, rfl, hp, pc.cl, pc.mouths, rfl, _, rfl, p, dx, _, rfl, hp, ?_, _, rfl, p, n, A, S, ex, i, rfl, ⟨dx, e, m, ms, hp, he, hm, hP⟩, ok, hi, ?_⟩
    · exact exo.heard
    refine ⟨m, _, _, .ref b, rfl, rfl, SqT.of hm, atI_nat (by rw [List.getElem?_map, hb]; rfl), ?_⟩
    refine ⟨_, rfl, p, C, dx, _, _, rfl, hp, pc.cl, pc.size, rfl, _, rfl, by omega, by omega, fun D hD => ?_⟩
    refine lc_keep (walk_range (n := n)) hD (fun j _ acc => acc = (((List.range j).filter fun o => decide (o ∈ S.getD (A.getD i 0) [])).map nV)) rfl (fun _ _ => trivial) ?_ ?_
    · rintro j x H1 H2 acc hj e2 hD1 rfl ⟨rfl, rfl⟩
      refine ⟨rfl, _, rfl, _, rfl, b, _, rfl, .inr (SqT.of (e2 _ _ hB)), rfl, flat_nat _, _, rfl, ?_⟩
      have ei : inV (V.int (0 + (j : Nat))) ((S.getD (A.getD i 0) []).map nV) = decide (j ∈ S.getD (A.getD i 0) []) := by
        rw [show (0 : Int) + (j : Nat) = ((j : Nat) : Int) by omega]
        exact inV_nat j _
      show if inV (V.int (0 + (j : Nat))) ((S.getD (A.getD i 0) []).map nV) = true then _ else _
      rw [ei]
      have er : (List.range (j + 1)).filter (fun o => decide (o ∈ S.getD (A.getD i 0) [])) = (List.range j).filter (fun o => decide (o ∈ S.getD (A.getD i 0) [])) ++ (if decide (j ∈ S.getD (A.getD i 0) []) = true then [j] else []) := by
        rw [List.range_succ, List.filter_append, List.filter_cons]
        rfl
      cases hd : decide (j ∈ S.getD (A.getD i 0) []) with
      | true =>
        rw [hd, if_pos rfl] at er
        refine iteT ⟨_, rfl, PvK.more hD e2 hD1 ?_ ?_⟩
        · rw [List.length_map]
          have := List.length_filter_le (fun o => decide (o ∈ S.getD (A.getD i 0) [])) (List.range j)
          rw [List.length_range] at this
          omega
        · rw [er, List.map_append]
          congr 2
          show V.int (0 + ((j : Nat) : Int)) = V.int ((j : Nat) : Int)
          congr 1
          omega
      | false =>
        rw [hd, if_neg Bool.false_ne_true, List.append_nil] at er
        refine iteF ⟨_, e2, hD1, ?_⟩
        show _ = List.map nV (List.filter (fun o => decide (o ∈ S.getD (A.getD i 0) [])) (List.range (j + 1)))
        rw [er]
    · rintro H' acc e2 hD' rfl
      exact k _ D e2 hD hD'
end
end Mz
namespace Mz
open PySem PySem.Spec PyProof.Rows L2 He C8
abbrev SupX (K : PySem.W.Frag) (x qual : Str) (st : Stmt) (f D : Addr) : Prop := ∃ fd cda cc, SupFn K x qual st f D fd fileM cda cc
/-- further facts: super(), the property -/
structure Ty (K : PySem.W.Frag) (mg : Str → Option Value) : Prop where
  t : Tx K mg
  z : mg "super" = none
  tab : ∃ p g, (∀ C ∈ [ga K "Person", ga K "Knower", ga K "Doubter", ga K "KnowingDoubter"], PropOf K C "table" p g) ∧ FnM K "table" "Person.table" sPerson_Table [] g
  kni : SupX K "__init__" "Knower.__init__" sKnower_Init (ma K (ga K "Knower") "__init__") (ga K "Knower")
  kns : SupX K "said" "Knower.said" sKnower_Said (ma K (ga K "Knower") "said") (ga K "Knower")
  dos : SupX K "said" "Doubter.said" sDoubter_Said (ma K (ga K "Doubter") "said") (ga K "Doubter")
  kds : SupX K "said" "KnowingDoubter.said" sKnowingDoubter_Said (ma K (ga K "KnowingDoubter") "said") (ga K "KnowingDoubter")
  o_ki : SupOf K (ga K "Knower") (ga K "Knower") "__init__" (ma K (ga K "Person") "__init__")
  o_di : SupOf K (ga K "KnowingDoubter") (ga K "Knower") "__init__" (ma K (ga K "Person") "__init__")
  o_ks : SupOf K (ga K "Knower") (ga K "Knower") "said" (ma K (ga K "Person") "said")
  o_ds : SupOf K (ga K "Doubter") (ga K "Doubter") "said" (ma K (ga K "Person") "said")
  o_bs : SupOf K (ga K "KnowingDoubter") (ga K "KnowingDoubter") "said" (ma K (ga K "Knower") "said")
  o_bk : SupOf K (ga K "KnowingDoubter") (ga K "Knower") "said" (ma K (ga K "Doubter") "said")
  o_bd : SupOf K (ga K "KnowingDoubter") (ga K "Doubter") "said" (ma K (ga K "Person") "said")
section
variable {P : Program} {w : World} {K : PySem.W.Frag} {mg : Str → Option Value} {base : Heap}
theorem SupFn.binds {x qual : Str} {st : Stmt} {f D : Addr} {fd : FuncData} {file : Str} {cda cc : Addr} (SF : SupFn K x qual st f D fd file cda cc) {ps : List Str}
    (h : ∀ (kV doc pm : Value) (an : Option Addr) (cdv ct : Value) (us : List Value), us.length = ps.length → bindArgs (PySem.W.fnX x qual (defArgs st) (defBody st) (defScope st) [("__class__", cc)] .none kV doc pm an cdv ct) ⟨us, []⟩ = pure (ps.zip us)) : Binds K fd ps [] := by
  obtain ⟨oc, od, dV, kV, doc, pm, an, ct, osl, rfl, lk, rfl⟩ := SF.ex
  exact .all (h kV doc pm an (.ref cda) ct)
theorem raw0 {k : Nat} {f : Addr} {fd : FuncData} {ps : List Str} {sp : Sp} (F : FnOk P w K mg base C8.CX0 k f fd ps sp) (b : Binds K fd ps []) : FnR P w K mg base C8.CX0 k f sp :=
  (F.raw b .nil).imp fun vs H Q E h => by rw [List.append_nil]; exact h
/-- what is said, by the class -/
def spSay (K : PySem.W.Frag) (C : Addr) (F : Nat → List Nat → List (List Nat) → Nat → List Nat) : Sp := fun vs H Q _ => ∃ (p : Addr) (n : Nat) (A : List Nat) (S : List (List Nat)) (ex : List (Str × V)) (i : Nat), vs = [.ref p, nV i] ∧ PerAt K H p C n A S ex ∧ PerOk n A S ∧ ExOk ex ∧ i < n ∧ RN H (nlst (F n A S i)) Q
def spKSay (K : PySem.W.Frag) (C : Addr) (F : Nat → List Nat → List (List Nat) → Nat → List Nat) : Sp := fun vs H Q _ => ∃ (p : Addr) (n : Nat) (A : List Nat) (S : List (List Nat)) (k : Addr) (kn : List Nat) (i : Nat), vs = [.ref p, nV i] ∧ PerAt K H p C n A S [("sure_words", .ref k)] ∧ H k = some (ntup kn) ∧ PerOk n A S ∧ i < n ∧
  RN H (nlst (if i ∈ kn then [i] else F n A S i)) Q
def dSaid (n : Nat) (A : List Nat) (S : List (List Nat)) (i : Nat) : List Nat := (List.range n).filter fun o => decide (o ∈ pSaid n A S i) || decide (o = i)
theorem exS {k : Addr} : ExOk [("sure_words", .ref k)] := ⟨rfl, rfl, by show 1 < 900; decide⟩
def spKnowerInit (K : PySem.W.Frag) (C : Addr) : Sp := fun vs H Q _ => ∃ (x dx a s l : Addr) (A : List Nat) (S : List (List Nat)) (kn : List Nat), vs = [.ref x, .ref a, .ref s, .ref l] ∧ H x = some (.ins C dx []) ∧ H a = some (nlst A) ∧ RowsAt H s S ∧ H l = some (nlst kn) ∧ PerOk A.length A S ∧ (∀ r ∈ S, r ≠ [] ∧ ∀ o ∈ r, o < A.length) ∧ (∀ k ∈ kn, k < A.length) ∧
  ∀ H' k, SameX x H H' → PerAt K H' x C A.length A S [("sure_words", .ref k)] → H' k = some (ntup kn) → Q .non H'
theorem scKnowingDoubterSaid : SupScope ["self", "word"] ["self", "word"] (defScope sKnowingDoubter_Said) := supScope_by (by decide +kernel)
theorem f_KD_said (Y : Ty K mg) (PF : PFile P fileM) {k : Nat} {F : Nat → List Nat → List (List Nat) → Nat → List Nat} (SG : FnR P w K mg base C8.CX0 k (ma K (ga K "Knower") "said") (spKSay K (ga K "KnowingDoubter") F)) :
    ∃ fd, FnOk P w K mg base C8.CX0 (k + 1) (ma K (ga K "KnowingDoubter") "said") fd ["self", "word"] (spKSay K (ga K "KnowingDoubter") F) ∧ Binds K fd ["self", "word"] [] := by
  have T := Y.t
  obtain ⟨fd, cda, cc, SF⟩ := Y.kds
  have SO := Y.o_bs
  refine ⟨fd, fn_super SF scKnowingDoubterSaid (fun vs H Q E h => ?_) (fun A outer s H vs Q E hr h => ?_), SF.binds fun _ _ _ _ _ _ us hl => match us, hl with | [_, _], _ => rfl⟩
  · obtain ⟨_, _, _, _, _, _, _, rfl, _⟩ := h
    rfl
  · obtain ⟨p, n, A1, S1, k1, kn, i, rfl, hp, hk, ok, hi, q⟩ := h
    have hcc : ∀ {L : Addr}, (ownS (defScope sKnowingDoubter_Said) L ++ [(("__class__" : Str), cc)]).lookup ("__class__" : Str) = some cc := fun {L} => rfl
    refine ⟨_, (sat_ret (pat_super (i := 0) SF PF SO SG hr rfl rfl hcc rfl rfl rfl rfl rfl Y.z (pa_cons (pv 1) pa_nil))), ?_⟩
    obtain ⟨dx, e, m, ms, hp1, hp2⟩ := id hp
    exact ⟨p, dx, _, rfl, hp1, _, rfl, p, n, A1, S1, k1, kn, i, rfl, hp, hk, ok, hi, q⟩
theorem scDoubterSaid : SupScope ["self", "word", "outs", "out"] ["self", "word"] (defScope sDoubter_Said) := supScope_by (by decide +kernel)
theorem f_Doubter_said (Y : Ty K mg) (PF : PFile P fileM) {k : Nat} {C : Addr} (pc : PC K C) (SO : SupOf K C (ga K "Doubter") "said" (ma K (ga K "Person") "said")) (SG : FnR P w K mg base C8.CX0 k (ma K (ga K "Person") "said") (spSay K C pSaid)) :
    ∃ fd, FnOk P w K mg base C8.CX0 (k + 1) (ma K (ga K "Doubter") "said") fd ["self", "word"] (spSay K C dSaid) ∧ Binds K fd ["self", "word"] [] := by
  have T := Y.t
  obtain ⟨fd, cda, cc, SF⟩ := Y.dos
  refine ⟨fd, fn_super SF scDoubterSaid (fun vs H Q E h => ?_) (fun A outer s H vs Q E hr h => ?_), SF.binds fun _ _ _ _ _ _ us hl => match us, hl with | [_, _], _ => rfl⟩
  · obtain ⟨_, _, _, _, _, _, rfl, _⟩ := h
    rfl
  · obtain ⟨p, n, A1, S1, ex, i, rfl, hp, ok, exo, hi, q⟩ := h
    have hcc : ∀ {L : Addr}, (ownS (defScope sDoubter_Said) L ++ [(("__class__" : Str), cc)]).lookup ("__class__" : Str) = some cc := fun {L} => rfl
    refine ⟨_, (sat_set (i := 2) scDoubterSaid.nd rfl (Or.inr rfl) (Or.inl rfl) (pat_super (i := 0) SF PF SO SG hr rfl rfl hcc rfl rfl rfl rfl rfl Y.z (pa_cons (pv 1) pa_nil))
      (pss_one (ps_ret (pe_lc (own := [("out", 3)]) (g := gName 3)  (rfl) scDoubterSaid.nd (pi_range1 rfl T.z_range (pa_cons (pe_fldK (K := K) rfl (pv 0) rfl) pa_nil)) (blkOk_by (own := [("out", 3)]) (N := ["self", "word", "outs", "out"]) (sc := defScope sDoubter_Said) (by decide +kernel)) (fun _ _ _ _ _ => pg_name (i := 3) scDoubterSaid.nd rfl (Or.inl rfl)) (fun _ _ _ _ _ => (pts_one (PW.pt (pw_or (pt_cmpR (op_inK (K := K) rfl) (pv 3) (pv 2) (by rfl)) (pw_or1 (pt_cmpR op_eq (pv 3) (pv 1) (nomark _))))))) (fun _ _ _ _ _ => (pv 3)))))), ?_⟩
    obtain ⟨dx, e, m, ms, hp1, hp2⟩ := id hp
    have hn3 := ok.n3
    refine ⟨p, dx, _, rfl, hp1, _, rfl, p, n, A1, S1, ex, i, rfl, hp, ok, exo, hi, fun H1 b e1 hb hb' => ?_⟩
    refine ⟨_, rfl, p, C, dx, _, _, rfl, e1 _ _ hp1, pc.cl, pc.size, rfl, _, rfl, by omega, by omega, fun D hD => ?_⟩
    refine lc_keep (walk_range (n := n)) hD (fun j _ acc => acc = ((List.range j).filter fun o => decide (o ∈ pSaid n A1 S1 i) || decide (o = i)).map nV) rfl (fun _ _ => trivial) ?_ ?_
    · rintro j x H2 H3 acc hj e2 hD1 rfl ⟨rfl, rfl⟩
      have er : (List.range (j + 1)).filter (fun o => decide (o ∈ pSaid n A1 S1 i) || decide (o = i)) = (List.range j).filter (fun o => decide (o ∈ pSaid n A1 S1 i) || decide (o = i)) ++ (if (decide (j ∈ pSaid n A1 S1 i) || decide (j = i)) = true then [j] else []) := by
        rw [List.range_succ, List.filter_append, List.filter_cons]
        rfl
      have ei : inV (V.int (0 + (j : Nat))) ((pSaid n A1 S1 i).map nV) = decide (j ∈ pSaid n A1 S1 i) := by
        rw [show (0 : Int) + (j : Nat) = ((j : Nat) : Int) by omega]
        exact inV_nat j _
      have yes : (decide (j ∈ pSaid n A1 S1 i) || decide (j = i)) = true → ∃ acc, H3 D = some (.lst acc) ∧ acc.length < sizeLine ∧ PvK H1 D (fun j _ acc => acc = ((List.range j).filter fun o => decide (o ∈ pSaid n A1 S1 i) || decide (o = i)).map nV) (j + 1) (L2.upd H3 D (.lst (acc ++ [V.int (0 + (j : Nat))]))) := by
        intro hd
        rw [hd, if_pos rfl] at er
        refine PvK.more hD e2 hD1 ?_ ?_
        · rw [List.length_map]
          have := List.length_filter_le (fun o => decide (o ∈ pSaid n A1 S1 i) || decide (o = i)) (List.range j)
          rw [List.length_range] at this
          omega
        · rw [er, List.map_append]
          congr 2
          show V.int (0 + ((j : Nat) : Int)) = V.int ((j : Nat) : Int)
          congr 1
          omega
      have no : (decide (j ∈ pSaid n A1 S1 i) || decide (j = i)) = false → PvK H1 D (fun j _ acc => acc = ((List.range j).filter fun o => decide (o ∈ pSaid n A1 S1 i) || decide (o = i)).map nV) (j + 1) H3 := by
        intro hd
        rw [hd, if_neg Bool.false_ne_true, List.append_nil] at er
        refine ⟨_, e2, hD1, ?_⟩
        show _ = List.map nV (List.filter (fun o => decide (o ∈ pSaid n A1 S1 i) || decide (o = i)) (List.range (j + 1)))
        rw [er]
      refine ⟨rfl, _, rfl, _, rfl, b, _, rfl, .inl (SqL.of (e2 _ _ hb')), rfl, flat_nat _, _, rfl, ?_⟩
      show if inV (V.int (0 + (j : Nat))) ((pSaid n A1 S1 i).map nV) = true then _ else _
      rw [ei]
      cases hd : decide (j ∈ pSaid n A1 S1 i) with
      | true =>
        refine iteT ?_
        exact iteT ⟨_, rfl, yes (by rw [hd]; rfl)⟩
      | false =>
        refine iteF ⟨_, rfl, _, rfl, rfl, _, rfl, ?_⟩
        rw [dec_int]
        cases hd2 : (0 + ((j : Nat) : Int) == ((i : Nat) : Int)) with
        | true =>
          have : j = i := by
            have := beq_iff_eq.mp hd2
            omega
          exact iteT ⟨_, rfl, yes (by rw [hd, decide_eq_true this]; rfl)⟩
        | false =>
          have : ¬ j = i := by
            have := beq_eq_false_iff_ne.mp hd2
            omega
          exact iteF (no (by rw [hd, decide_eq_false this]; rfl))
    · rintro H' acc e2 hD' rfl
      exact q _ D (e1.trans e2) (e1.free hD) hD'
theorem scKnowerSaid : SupScope ["self", "word", "outs"] ["self", "word"] (defScope sKnower_Said) := supScope_by (by decide +kernel)
theorem f_Knower_said (Y : Ty K mg) (PF : PFile P fileM) {k : Nat} {C g : Addr} {F : Nat → List Nat → List (List Nat) → Nat → List Nat} (pc : PC K C) (SO : SupOf K C (ga K "Knower") "said" g) (SG : FnR P w K mg base C8.CX0 k g (spSay K C F)) :
    ∃ fd, FnOk P w K mg base C8.CX0 (k + 1) (ma K (ga K "Knower") "said") fd ["self", "word"] (spKSay K C F) ∧ Binds K fd ["self", "word"] [] := by
  have T := Y.t
  obtain ⟨fd, cda, cc, SF⟩ := Y.kns
  refine ⟨fd, fn_super SF scKnowerSaid (fun vs H Q E h => ?_) (fun A outer s H vs Q E hr h => ?_), SF.binds fun _ _ _ _ _ _ us hl => match us, hl with | [_, _], _ => rfl⟩
  · obtain ⟨_, _, _, _, _, _, _, rfl, _⟩ := h
    rfl
  · obtain ⟨p, n, A1, S1, k1, kn, i, rfl, hp, hk, ok, hi, q⟩ := h
    have hcc : ∀ {L : Addr}, (ownS (defScope sKnower_Said) L ++ [(("__class__" : Str), cc)]).lookup ("__class__" : Str) = some cc := fun {L} => rfl
    refine ⟨_, (sat_set (i := 2) scKnowerSaid.nd rfl (Or.inl rfl) (Or.inl rfl) (pat_super (i := 0) SF PF SO SG hr rfl rfl hcc rfl rfl rfl rfl rfl Y.z (pa_cons (pv 1) pa_nil))
      (pss_cons (ps_if (pt_cmpR (op_inK (K := K) rfl) (pv 1) (pe_fldK (K := K) rfl (pv 0) rfl) (by rfl))
        (pss_one (ps_ret (pe_lst (pa_cons (pv 1) pa_nil))))
        pss_nil)
      (pss_one (ps_ret (pv 2))))), ?_⟩
    obtain ⟨dx, e, m, ms, hp1, hp2⟩ := id hp
    refine ⟨p, dx, _, rfl, hp1, _, rfl, p, n, A1, S1, _, i, rfl, hp, ok, exS, hi, fun H1 b e1 hb hb' => ?_⟩
    refine ⟨_, rfl, _, rfl, p, C, dx, _, _, rfl, e1 _ _ hp1, pc.cl, pc.sure, rfl, k1, _, rfl, .inr (SqT.of (e1 _ _ hk)), rfl, flat_nat _, _, rfl, ?_⟩
    show if inV (nV i) (kn.map nV) = true then _ else _
    rw [inV_nat]
    cases hd : decide (i ∈ kn) with
    | true =>
      rw [if_pos (of_decide_eq_true hd)] at q
      refine iteT ⟨_, rfl, by show 1 ≤ sizeLine; decide, fun l hl => ?_⟩
      exact q _ l (e1.trans (Same.upd (Same.refl _) hl)) (e1.free hl) upd_same
    | false =>
      rw [if_neg (of_decide_eq_false hd)] at q
      exact iteF ⟨_, rfl, q _ b e1 hb hb'⟩
end
end Mz
namespace Mz
open PySem PySem.Spec PyProof.Rows L2 He C8
abbrev AtT := Hp → Addr → Nat → (Nat → List Nat) → Prop
/-- a person whose class C says by F -/
def At1 (K : PySem.W.Frag) (C : Addr) (F : Nat → List Nat → List (List Nat) → Nat → List Nat) : AtT := fun H p n f => ∃ A S, PerAt K H p C n A S [] ∧ PerOk n A S ∧ ∀ i, i < n → f i = F n A S i
/-- .. who knows words -/
def At2 (K : PySem.W.Frag) (C : Addr) (F : Nat → List Nat → List (List Nat) → Nat → List Nat) : AtT := fun H p n f => ∃ A S k kn, PerAt K H p C n A S [("sure_words", .ref k)] ∧ H k = some (ntup kn) ∧ PerOk n A S ∧ ∀ i, i < n → f i = if i ∈ kn then [i] else F n A S i
def spF (At : AtT) : Sp := fun vs H Q _ => ∃ (p : Addr) (n : Nat) (f : Nat → List Nat) (i : Nat), vs = [.ref p, nV i] ∧ At H p n f ∧ i < n ∧ RN H (nlst (f i)) Q
def spTab (K : PySem.W.Frag) (At : AtT) : Sp := fun vs H Q _ => ∃ (p : Addr) (n : Nat) (f : Nat → List Nat) (M : List Nat), vs = [.ref p] ∧ At H p n f ∧ Mu.Rel n M ∧ (∀ i, i < n → f i = Mu.bitsL (M.getD i 0)) ∧ RT K H M Q
structure Kind (P : Program) (w : World) (K : PySem.W.Frag) (mg : Str → Option Value) (base : Heap) (C : Addr) (At : AtT) : Prop where
  pc : PC K C
  same : ∀ {H H' p n f}, At H p n f → Same H H' → At H' p n f
  ins : ∀ {H p n f}, At H p n f → ∃ dx fs, H p = some (.ins C dx fs) ∧ fs.lookup ("size" : Str) = some (nV n) ∧ fs.lookup ("said" : Str) = none
  n13 : ∀ {H p n f}, At H p n f → 1 ≤ n ∧ n ≤ 3
  said : Met P w K mg base 6 C "said" (spF At) []
section
variable {P : Program} {w : World} {K : PySem.W.Frag} {mg : Str → Option Value} {base : Heap}
theorem scKnowerInit : SupScope ["self", "hears", "says", "knows"] ["self", "hears", "says", "knows"] (defScope sKnower_Init) := supScope_by (by decide +kernel)
theorem f_Knower_init (Y : Ty K mg) (PF : PFile P fileM) {C : Addr} (pc : PC K C) (SO : SupOf K C (ga K "Knower") "__init__" (ma K (ga K "Person") "__init__")) :
    ∃ fd, FnOk P w K mg base C8.CX0 4 (ma K (ga K "Knower") "__init__") fd ["self", "hears", "says", "knows"] (spKnowerInit K C) ∧ Binds K fd ["self", "hears", "says", "knows"] [] := by
  have T := Y.t
  obtain ⟨fdP, FP, bP⟩ := f_Person___init__ (P := P) (w := w) (base := base) T pc
  have SG := raw0 FP bP
  obtain ⟨fd, cda, cc, SF⟩ := Y.kni
  refine ⟨fd, fn_super SF scKnowerInit (fun vs H Q E h => ?_) (fun A outer s H vs Q E hr h => ?_), SF.binds fun _ _ _ _ _ _ us hl => match us, hl with | [_, _, _, _], _ => rfl⟩
  · obtain ⟨_, _, _, _, _, _, _, _, rfl, _⟩ := h
    rfl
  · obtain ⟨x, dx, a, s1, l, A1, S1, kn, rfl, hx, ha, hR, hl, ok, hS, hk, q⟩ := h
    have hcc : ∀ {L : Addr}, (ownS (defScope sKnower_Init) L ++ [(("__class__" : Str), cc)]).lookup ("__class__" : Str) = some cc := fun {L} => rfl
    refine ⟨_, (sat_expr (pat_super (i := 0) SF PF SO SG hr rfl rfl hcc rfl rfl rfl rfl rfl Y.z (pa_cons (pv 1) (pa_cons (pv 2) pa_nil)))
      (pss_cons (ps_if (pt_not (pt_val (pe_c (c_all_words T) hr (by decide) rfl (pa_cons (pe_fldK (K := K) rfl (pv 0) rfl) (pa_cons (pv 3) pa_nil)))))
        (pss_one ps_never)
        pss_nil)
      (pss_one (ps_fld (pv 0) (pe_callTy (call_tuple_ofK (K := K) rfl) (by rfl) T.z_tuple (by decide +kernel) (pa_cons (pv 3) pa_nil)) rfl)))), ?_⟩
    refine ⟨x, dx, _, rfl, hx, _, rfl, _, rfl, x, dx, a, s1, A1, S1, rfl, hx, ha, hR, ok, hS, fun H1 e1 hp => ?_⟩
    obtain ⟨dx', e, m, ms, p1, p2, p3, p4⟩ := hp
    have hl1 : H1 l = some (nlst kn) := e1 _ _ (ne_of hl hx (fun z => by unfold nlst at z; cases z)) hl
    refine ⟨_, rfl, x, C, dx', _, _, rfl, p1, pc.cl, pc.size, rfl, _, rfl, A1.length, l, kn, rfl, hl1, hk, _, rfl, ?_⟩
    refine iteF ⟨_, rfl, l, _, rfl, .inl ⟨SqL.of hl1, fun t ht => ?_⟩⟩
    have e2 : Same H1 (L2.upd H1 t (.tup (kn.map nV))) := Same.upd (Same.refl _) ht
    have tx : t ≠ x := fun z => by
      rw [z, p1] at ht
      cases ht
    refine ⟨_, rfl, x, C, dx', _, rfl, e2 _ _ p1, pc.cl, pc.sure, by show 3 < 1000; decide, ?_⟩
    refine q _ t ((e1.trans (SameX.of e2)).upd) ⟨dx', e, m, ms, upd_same, ?_, ?_, ?_⟩ ?_
    · rw [upd_ne (ne_of (e2 _ _ p2) (e2 _ _ p1) (fun z => by unfold ntup at z; cases z))]
      exact e2 _ _ p2
    · rw [upd_ne (ne_of (e2 _ _ p3) (e2 _ _ p1) (fun z => by cases z))]
      exact e2 _ _ p3
    · refine (p4.same e2).upd (Pts.notin (p4.same e2) (e2 _ _ p1) fun u hu z => ?_)
      obtain ⟨r, _, rfl⟩ := List.mem_map.mp hu
      unfold ntup at z
      cases z
    · rw [upd_ne tx, upd_same]
      rfl
theorem kind1 {C : Addr} {F : Nat → List Nat → List (List Nat) → Nat → List Nat} (pc : PC K C) {g : Addr} (hm : Meth K C "said" g) {fd : FuncData} {j : Nat} (hj : j ≤ 6) (G : FnOk P w K mg base C8.CX0 j g fd ["self", "word"] (spSay K C F)) (b : Binds K fd ["self", "word"] []) : Kind P w K mg base C (At1 K C F) where
  pc := pc
  same := fun ⟨A, S, h1, h2, h3⟩ e => ⟨A, S, h1.same e, h2, h3⟩
  ins := fun ⟨A, S, ⟨dx, e, m, ms, p1, _⟩, _, _⟩ => ⟨dx, _, p1, rfl, rfl⟩
  n13 := fun ⟨A, S, _, h2, _⟩ => ⟨h2.n1, h2.n3⟩
  said := ⟨g, fd, _, [], pc.cl, hm, (G.mono hj).imp fun vs H Q E ⟨p, n, f, i, e, ⟨A, S, h1, h2, h3⟩, hi, q⟩ => ⟨p, n, A, S, [], i, e, h1, h2, ⟨rfl, rfl, by show 0 < 900; decide⟩, hi, by rw [← h3 i hi]; exact q⟩, b, .nil⟩
theorem kind2 {C : Addr} {F : Nat → List Nat → List (List Nat) → Nat → List Nat} (pc : PC K C) {g : Addr} (hm : Meth K C "said" g) {fd : FuncData} {j : Nat} (hj : j ≤ 6) (G : FnOk P w K mg base C8.CX0 j g fd ["self", "word"] (spKSay K C F)) (b : Binds K fd ["self", "word"] []) : Kind P w K mg base C (At2 K C F) where
  pc := pc
  same := fun ⟨A, S, k, kn, h1, h0, h2, h3⟩ e => ⟨A, S, k, kn, h1.same e, e _ _ h0, h2, h3⟩
  ins := fun ⟨A, S, k, kn, ⟨dx, e, m, ms, p1, _⟩, _, _, _⟩ => ⟨dx, _, p1, rfl, rfl⟩
  n13 := fun ⟨A, S, k, kn, _, _, h2, _⟩ => ⟨h2.n1, h2.n3⟩
  said := ⟨g, fd, _, [], pc.cl, hm, (G.mono hj).imp fun vs H Q E ⟨p, n, f, i, e, ⟨A, S, k, kn, h1, h0, h2, h3⟩, hi, q⟩ => ⟨p, n, A, S, k, kn, i, e, h1, h0, h2, hi, by rw [← h3 i hi]; exact q⟩, b, .nil⟩
theorem pcPerson (T : Tx K mg) : PC K (ga K "Person") := ⟨T.c_Person, T.n_Person_size, T.n_Person_ears, T.n_Person_mouths, T.n_Person_sure_words, T.h_Person_heard⟩
theorem pcKnower (T : Tx K mg) : PC K (ga K "Knower") := ⟨T.c_Knower, T.n_Knower_size, T.n_Knower_ears, T.n_Knower_mouths, T.n_Knower_sure_words, by rw [← T.e_heard "Knower" (by simp)]; exact T.h_Knower_heard⟩
theorem pcDoubter (T : Tx K mg) : PC K (ga K "Doubter") := ⟨T.c_Doubter, T.n_Doubter_size, T.n_Doubter_ears, T.n_Doubter_mouths, T.n_Doubter_sure_words, by rw [← T.e_heard "Doubter" (by simp)]; exact T.h_Doubter_heard⟩
theorem pcKD (T : Tx K mg) : PC K (ga K "KnowingDoubter") := ⟨T.c_KnowingDoubter, T.n_KnowingDoubter_size, T.n_KnowingDoubter_ears, T.n_KnowingDoubter_mouths, T.n_KnowingDoubter_sure_words, by rw [← T.e_heard "KnowingDoubter" (by simp)]; exact T.h_KnowingDoubter_heard⟩
theorem kdPerson (Y : Ty K mg) : Kind P w K mg base (ga K "Person") (At1 K (ga K "Person") pSaid) := by
  obtain ⟨fd, G, b⟩ := f_Person_said (P := P) (w := w) (base := base) Y.t (pcPerson Y.t)
  exact kind1 (pcPerson Y.t) Y.t.h_Person_said (by decide) G b
theorem kdDoubter (Y : Ty K mg) (PF : PFile P fileM) : Kind P w K mg base (ga K "Doubter") (At1 K (ga K "Doubter") dSaid) := by
  obtain ⟨fd, G, b⟩ := f_Person_said (P := P) (w := w) (base := base) Y.t (pcDoubter Y.t)
  obtain ⟨fd2, G2, b2⟩ := f_Doubter_said (P := P) (w := w) (base := base) Y PF (pcDoubter Y.t) Y.o_ds (raw0 G b)
  exact kind1 (pcDoubter Y.t) Y.t.h_Doubter_said (by decide) G2 b2
theorem kdKnower (Y : Ty K mg) (PF : PFile P fileM) : Kind P w K mg base (ga K "Knower") (At2 K (ga K "Knower") pSaid) := by
  obtain ⟨fd, G, b⟩ := f_Person_said (P := P) (w := w) (base := base) Y.t (pcKnower Y.t)
  obtain ⟨fd2, G2, b2⟩ := f_Knower_said (P := P) (w := w) (base := base) Y PF (pcKnower Y.t) Y.o_ks (raw0 G b)
  exact kind2 (pcKnower Y.t) Y.t.h_Knower_said (by decide) G2 b2
theorem kdKD (Y : Ty K mg) (PF : PFile P fileM) : Kind P w K mg base (ga K "KnowingDoubter") (At2 K (ga K "KnowingDoubter") dSaid) := by
  obtain ⟨fd, G, b⟩ := f_Person_said (P := P) (w := w) (base := base) Y.t (pcKD Y.t)
  obtain ⟨fd2, G2, b2⟩ := f_Doubter_said (P := P) (w := w) (base := base) Y PF (pcKD Y.t) Y.o_bd (raw0 G b)
  obtain ⟨fd3, G3, b3⟩ := f_Knower_said (P := P) (w := w) (base := base) Y PF (pcKD Y.t) Y.o_bk (raw0 G2 b2)
  obtain ⟨fd4, G4, b4⟩ := f_KD_said (P := P) (w := w) (base := base) Y PF (raw0 G3 b3)
  exact kind2 (pcKD Y.t) Y.t.h_KnowingDoubter_said (by decide) G4 b4
theorem scPersonTable : FnScope ["self", "word"] ["self"] (defScope sPerson_Table) := fnScope_by (by decide +kernel)
theorem f_table (T : Tx K mg) {g : Addr} (FM : FnM K "table" "Person.table" sPerson_Table [] g) {C : Addr} {At : AtT} (kd : Kind P w K mg base C At) : ∃ fd, FnOk P w K mg base C8.CX0 7 g fd ["self"] (spTab K At) ∧ Binds K fd ["self"] [] := by
  have sd := kd.said
  refine fnM FM scPersonTable (fun _ _ _ _ _ _ us hl => match us, hl with | [_], _ => rfl) (fun vs H Q E h => ?_) (fun cdv A outer s H vs Q E hr h => ?_)
  · obtain ⟨_, _, _, _, rfl, _⟩ := h
    rfl
  · obtain ⟨p, n, f, M, rfl, ha, hM, hf, k⟩ := h
    obtain ⟨dx, fs, hp, hsz, hsd⟩ := kd.ins ha
    obtain ⟨n1, n3⟩ := kd.n13 ha
    have hSm := Sm.rel n3 hM
    refine ⟨_, (pss_one (ps_ret (pe_mk (k_Table T) hr (by decide) rfl (pa_cons (pe_lc (own := [("word", 1)]) (g := gName 1) (tt := tYes)  (rfl) scPersonTable.nd (pi_range1 rfl T.z_range (pa_cons (pe_fldK (K := K) rfl (pv 0) rfl) pa_nil)) (blkOk_by (own := [("word", 1)]) (N := ["self", "word"]) (sc := defScope sPerson_Table) (by decide +kernel)) (fun _ _ _ _ _ => pg_name (i := 1) scPersonTable.nd rfl (Or.inl rfl)) (fun _ _ _ _ _ => pts_nil) (fun _ _ _ _ _ => (pe_mt sd hr (by decide) (pv 0) (pa_cons (pv 1) pa_nil)))) pa_nil)))), ?_⟩
    refine ⟨_, rfl, p, C, dx, _, _, rfl, hp, kd.pc.cl, kd.pc.size, hsz, _, rfl, by omega, by omega, fun D hD => ?_⟩
    refine lc_keep (walk_range (n := n)) hD (fun i H' acc => ∃ ls : List Addr, acc = ls.map V.ref ∧ Pts H' ls (((M.take i).map Mu.bitsL).map nlst) ∧ D ∉ ls) ⟨[], rfl, Pts.nil, by simp⟩ (fun _ _ => trivial) ?_ ?_
    · rintro i x H1 H2 acc hi e hD1 ⟨ls, rfl, hp1, hDl⟩ ⟨rfl, rfl⟩
      have hiM : i < M.length := by rw [hM.1]; exact hi
      have hll : ls.length = i := by
        have := hp1.1
        simp at this
        omega
      refine ⟨rfl, _, rfl, p, dx, fs, rfl, e _ _ hp, hsd, _, rfl, p, n, f, i, ?_, kd.same ha e, hi, ?_⟩
      · show [V.ref p, V.int (0 + (i : Nat))] = [V.ref p, V.int (i : Nat)]
        rw [show (0 : Int) + (i : Nat) = ((i : Nat) : Int) by omega]
      rw [hf i hi]
      refine fun H3 b e3 hb3 hb3' => PvK.more (acc := ls.map V.ref) hD (e.trans e3) (e3 _ _ hD1) ?_ ⟨ls ++ [b], by simp, ?_, ?_⟩
      · rw [List.length_map, hll]
        omega
      · rw [List.take_add_one, getD_at (d := 0) hiM]
        simp only [Option.toList_some, List.map_append, List.map_cons, List.map_nil]
        refine Pts.upd ((hp1.same e3).snoc hb3') ?_
        intro z
        rcases List.mem_append.mp z with z | z
        · exact hDl z
        · have : D = b := by simpa using z
          rw [← this, hD1] at hb3
          cases hb3
      · intro z
        rcases List.mem_append.mp z with z | z
        · exact hDl z
        · have : D = b := by simpa using z
          rw [← this, hD1] at hb3
          cases hb3
    · rintro H' acc e hD' ⟨ls, rfl, hp1, hDl⟩
      rw [← hM.1, List.take_length] at hp1
      exact mkTable ⟨ls, hD', hp1⟩ hSm (by rw [hM.1]; exact n1) (by rw [hM.1]; exact hM.2) (k.same e)
end
end Mz
/-! enumerate over a text -/
namespace Mz
open PySem PySem.Spec PyProof.Rows L2
/-- the signs of x, each in a new pair -/
def Ites (x : Str) : It :=
  ⟨fun i _ => i < x.cps.size, fun i H v H' => ∃ T c, v = .ref T ∧ H T = none ∧ H' = L2.upd H T (.tup [.int (i : Nat), .str ⟨#[c]⟩]) ∧ x.cps[i]? = some c, fun i _ => i = x.cps.size⟩
theorem turn_enumS {P : Program} {w : World} {K : PySem.W.Frag} {elts : List Expr} {kk : Nat} {tpos : Pos} (x : Str) (t : Tok) (e it : Addr) (ty : String) (hty : ty = "str_ascii_iterator" ∨ ty = "str_iterator") :
    Turn P w K (.Tuple elts kk tpos) (Ites x) [e, it] e (fun i h => (∃ old, IsEnum h e it ((i : Nat) : Int) old) ∧ h.IsStrIter it ty x t i ∧ e ≠ it) where
  mem := by simp
  obj := fun i h st b hb => by
    obtain ⟨⟨old, he⟩, ⟨o, ho, hc, hd⟩, _⟩ := st
    have e' : b = e ∨ b = it := by simpa using hb
    rcases e' with z | z
    · rw [z]; exact ⟨_, he, fun v q => nomatch q⟩
    · rw [z]; exact ⟨o, ho, fun v q => by rw [hd] at q; cases q⟩
  keep := fun i h h' st k => let ⟨⟨old, he⟩, ⟨o, ho, r⟩, hne⟩ := st; ⟨⟨old, k e (by simp) _ he⟩, ⟨o, k it (by simp) o ho, r⟩, hne⟩
  item := by
    intro X hP hw hK hc i pins s σ H E I hf st hg
    subst hP hw hK
    obtain ⟨⟨old, he⟩, hit, hne⟩ := st
    have hel : e < s.heap.objs.size := Heap.lt_size he
    have hil : it < s.heap.objs.size := by obtain ⟨_, q, _⟩ := hit; exact Heap.lt_size q
    have D : Draws X.prog X.w X.A.in1 it [it] x.cps.size (fun i v => ∃ c u, x.cps[i]? = some c ∧ v = .str ⟨#[c]⟩ u) (fun i h => h.IsStrIter it ty x t i) := by
      rcases hty with e | e
      · rw [e]; exact Draws.strAscii (A := X.A.in1) (I.ok.hd hc) it x t
      · rw [e]; exact Draws.strWide (A := X.A.in1) (I.ok.hd hc) it x t
    refine wpAny_pyNext_enum_itemD D he hit hg hne (by simpa using hne) fun v h' tk hv ho hit' hT hsz hk => ?_
    obtain ⟨c, u, hcx, rfl⟩ := hv
    refine ⟨_, rfl, wpAny_letOwnedTupleGo_enum (s := { s with heap := h', toks := tk + 1 }) ho fun h'' he' sb => ?_⟩
    have hT2 : h''.get? s.heap.objs.size = some { cls := .type "tuple", data := .seq #[.int i tk, .str ⟨#[c]⟩ u] } := (sb.2 _ (Nat.ne_of_gt hel)).trans hT
    have new : ObjOk X.prog X.w (L2.upd H s.heap.objs.size (.tup [.int (i : Nat), .str ⟨#[c]⟩])) h'' s.heap.objs.size (.tup [.int (i : Nat), .str ⟨#[c]⟩]) :=
      ⟨by show 2 ≤ sizeLine; decide, [.int i tk, .str ⟨#[c]⟩ u], .cons ⟨_, rfl⟩ (.cons ⟨_, rfl⟩ .nil), ⟨_, hT2, rfl, _, rfl⟩⟩
    have I1 : Inv X pins σ (L2.upd H s.heap.objs.size (.tup [.int (i : Nat), .str ⟨#[c]⟩])) { s with heap := h'', toks := tk + 1 } :=
      I.turnedNew (ch := [e, it]) (fun b ob hb q => (sb.2 b (fun z => hb (by simp [z]))).trans (hk b ob (fun z => hb (by simp [z])) (fun z => hb (by simp [z])) q)) hf (Nat.le_refl _) new
    refine ⟨.ref s.heap.objs.size, _, I1, rfl, ⟨_, c, rfl, I.hok.fresh (Nat.le_refl _), rfl, hcx⟩, ⟨⟨.str ⟨#[c]⟩ u, ?_⟩, ?_, hne⟩, fun b hb => ?_⟩
    · have e1 : ((i + 1 : Nat) : Int) = (i : Int) + 1 := by omega
      rw [e1]; exact he'
    · obtain ⟨o, q, r⟩ := hit'
      exact ⟨o, (sb.2 it (Ne.symm hne)).trans q, r⟩
    · have hb' : b < s.heap.objs.size := by
        have e' : b = e ∨ b = it := by simpa using hb
        rcases e' with z | z
        · rw [z]; exact hel
        · rw [z]; exact hil
      rw [upd_ne (Nat.ne_of_lt hb')]
      exact (hf b hb).1
  done := by
    intro X hP hw hK hc i pins s σ H E I hf st hg
    subst hP hw hK
    obtain ⟨⟨old, he⟩, hit, hne⟩ := st
    obtain ⟨f0, f1, f2, f3, f4, f5⟩ := hf it (by simp)
    have D : Draws X.prog X.w X.A.in1 it [it] x.cps.size (fun i v => ∃ c u, x.cps[i]? = some c ∧ v = .str ⟨#[c]⟩ u) (fun i h => h.IsStrIter it ty x t i) := by
      rcases hty with e | e
      · rw [e]; exact Draws.strAscii (A := X.A.in1) (I.ok.hd hc) it x t
      · rw [e]; exact Draws.strWide (A := X.A.in1) (I.ok.hd hc) it x t
    have hg' : i = x.cps.size := hg
    subst hg'
    exact wpAny_pyNext_enum_endD D he hit fun h' eb => ⟨rfl, I.turned (t' := s.toks) (fun b o hb q => eb b o hb q) f0 f1 f3 f4 f5⟩
  self := fun A i s Q E st h => let ⟨⟨_, he⟩, _⟩ := st; wpAny_pyIter_enum he h
def iEnumS (ta : TA) : TI := fun σ H R => ta σ H fun vs H1 => ∃ x, vs = [.str x] ∧ R (Ites x) H1
theorem pi_enumS {X : Cx} {e : Expr} {ta : TA} {p pos tpos : Pos} {elts : List Expr} {kk : Nat} (hg : Gl X "enumerate") (hm : X.mg "enumerate" = none) (ha : PA X [e] ta) (hs : starEach [e] X.env = [(false, eval e X.env)] := by rfl) :
    PI X (.Tuple elts kk tpos) (.Call (.Name "enumerate" p) [e] [] pos) (iEnumS ta) := by
  refine ⟨fun pins s σ H R I h => ?_⟩
  refine Call_ (ld_blt I hg hm boot_enumerate (PyProof.Rows.callWith_type1 (thn (ha.run pos pins s σ H _ I h) fun us s1 ⟨vs, H1, I1, r1, q1⟩ => ?_) hs rfl))
  obtain ⟨x, ex, q⟩ := q1
  subst ex
  cases r1 with
  | cons r rr =>
    cases rr
    obtain ⟨t, rfl⟩ := r
    refine call_enumerate_str fun h' he hit hsz hk => wpAny_pyIter_enum he ?_
    have I2 : Inv X pins σ H1 { s1 with heap := h' } := I1.kept (t' := s1.toks) hk
    have hty : strIterType x = "str_ascii_iterator" ∨ strIterType x = "str_iterator" := by
      unfold strIterType
      split
      · exact .inl rfl
      · exact .inr rfl
    refine ⟨s1.heap.objs.size + 1, [s1.heap.objs.size + 1, s1.heap.objs.size], _, _, H1, rfl, I2, turn_enumS x t (s1.heap.objs.size + 1) s1.heap.objs.size _ hty, ⟨⟨.none, he⟩, hit, Nat.succ_ne_self _⟩, fun b hb => ?_, q⟩
    have e' : b = s1.heap.objs.size + 1 ∨ b = s1.heap.objs.size := by simpa using hb
    have hle : s1.heap.objs.size ≤ b := by
      rcases e' with z | z
      · rw [z]; exact Nat.le_add_right _ _
      · rw [z]; exact Nat.le_refl _
    exact I1.fpOk hle (I1.hok.fresh hle)
theorem walk_enumS {z : Str} : Walk (Ites z) z.cps.size (fun _ => True) (fun i H v H' => ∃ T c, v = .ref T ∧ H T = none ∧ H' = L2.upd H T (.tup [.int (i : Nat), .str ⟨#[c]⟩]) ∧ z.cps[i]? = some c) :=
  ⟨fun _ _ hi _ => hi, fun _ _ => rfl, fun _ _ _ _ _ _ y => y⟩
end Mz
namespace Mz
open PySem PySem.Spec PyProof.Rows L2 He C8
/-! ### letters -/
abbrev lV (c : Nat) : V := .str (SX.S [c])
abbrev lK (c : Nat) : Key := Sum.inr (SX.S [c])
theorem lK_inj {a b : Nat} (h : lK a = lK b) : a = b := by
  have := SX.S_inj (Sum.inr.inj h)
  simpa using this
def abc : List Nat := (List.range 26).map (97 + ·)
theorem abc_txt : ("abcdefghijklmnopqrstuvwxyz" : Str) = SX.S abc := by decide +kernel
theorem abc_nodup : abc.Nodup := by decide +kernel
/-- the entries of a dict by letters -/
def kvF {α : Type} (g : α → V) (F : List (Nat × α)) : List (Key × V) := F.map fun p => (lK p.1, g p.2)
theorem valV_kvF {α : Type} (g : α → V) (c : Nat) : ∀ F : List (Nat × α), valV (kvF g F) (lK c) = (F.lookup c).map g
  | [] => rfl
  | (l, a) :: F => by
    have ih := valV_kvF g c F
    by_cases h : l = c
    · subst h
      have e : kvF g ((l, a) :: F) = (lK l, g a) :: kvF g F := rfl
      rw [e, valV_pos rfl, List.lookup_cons, beq_self_eq_true]
      rfl
    · have e : kvF g ((l, a) :: F) = (lK l, g a) :: kvF g F := rfl
      rw [e, valV_neg (fun z => h (lK_inj z)), ih, List.lookup_cons]
      have : (c == l) = false := beq_eq_false_iff_ne.mpr (Ne.symm h)
      rw [this]
theorem lookup_none {α : Type} {c : Nat} : ∀ {F : List (Nat × α)}, c ∉ F.map (·.1) → F.lookup c = none
  | [], _ => rfl
  | (l, a) :: F, h => by
    rw [List.map_cons, List.mem_cons, not_or] at h
    rw [List.lookup_cons, beq_eq_false_iff_ne.mpr h.1]
    exact lookup_none h.2
theorem lookup_some {α : Type} {c : Nat} : ∀ {F : List (Nat × α)}, c ∈ F.map (·.1) → ∃ a, F.lookup c = some a ∧ (c, a) ∈ F
  | [], h => by cases h
  | (l, a) :: F, h => by
    rw [List.lookup_cons]
    cases hb : c == l with
    | true => exact ⟨a, rfl, by rw [beq_iff_eq.mp hb]; exact List.mem_cons_self ..⟩
    | false =>
      rw [List.map_cons, List.mem_cons] at h
      obtain ⟨b, h1, h2⟩ := lookup_some (h.resolve_left (beq_eq_false_iff_ne.mp hb))
      exact ⟨b, h1, List.mem_cons_of_mem _ h2⟩
theorem lookup_isSome {α : Type} {c : Nat} {F : List (Nat × α)} : (F.lookup c).isSome = decide (c ∈ F.map (·.1)) := by
  by_cases h : c ∈ F.map (·.1)
  · obtain ⟨a, e, _⟩ := lookup_some h
    rw [e, decide_eq_true h]
    rfl
  · rw [lookup_none h, decide_eq_false h]
    rfl
/-- the letters of a cast, in order -/
def lets {α : Type} (F : List (Nat × α)) : List Nat := abc.filter fun c => decide (c ∈ F.map (·.1))
/-! ### casts -/
structure FOk (n : Nat) (tb : Nat → List Nat) (F : List (Nat × Addr)) : Prop where
  n1 : 1 ≤ n
  n3 : n ≤ 3
  nd : (F.map (·.1)).Nodup
  abc : ∀ p ∈ F, p.1 ∈ abc
  few : F.length ≤ 8
  rel : ∀ c ∈ F.map (·.1), Mu.Rel n (tb c)
def CastAt (K : PySem.W.Frag) (H : Hp) (x d : Addr) (n : Nat) (tb : Nat → List Nat) (F : List (Nat × Addr)) : Prop :=
  ∃ dx r, H x = some (.ins (ga K "Cast") dx [("size", nV n), ("folk", .ref d), ("roster", .ref r)]) ∧ H d = some (.dK (kvF V.ref F)) ∧ H r = some (.lst ((lets F).map lV)) ∧ (∀ p ∈ F, TableAt K H p.2 (tb p.1)) ∧ FOk n tb F
theorem CastAt.same {K : PySem.W.Frag} {H H' : Hp} {x d : Addr} {n : Nat} {tb : Nat → List Nat} {F : List (Nat × Addr)} (h : CastAt K H x d n tb F) (e : Same H H') : CastAt K H' x d n tb F := by
  obtain ⟨dx, r, h1, h2, h3, h4, h5⟩ := h
  exact ⟨dx, r, e _ _ h1, e _ _ h2, e _ _ h3, fun p hp => (h4 p hp).same e, h5⟩
/-- all but two -/
def Same2 (x d : Addr) (H H' : Hp) : Prop := ∀ b o, b ≠ x → b ≠ d → H b = some o → H' b = some o
theorem Same2.of {x d : Addr} {H H' : Hp} (e : Same H H') : Same2 x d H H' := fun b o _ _ h => e b o h
theorem Same2.trans {x d : Addr} {H H' H2 : Hp} (e : Same2 x d H H') (f : Same2 x d H' H2) : Same2 x d H H2 := fun b o n m h => f b o n m (e b o n m h)
theorem Same2.updx {x d : Addr} {H H' : Hp} {o : HO} (e : Same2 x d H H') : Same2 x d H (L2.upd H' x o) := fun b u n m h => by
  rw [upd_ne n]
  exact e b u n m h
theorem Same2.updd {x d : Addr} {H H' : Hp} {o : HO} (e : Same2 x d H H') : Same2 x d H (L2.upd H' d o) := fun b u n m h => by
  rw [upd_ne m]
  exact e b u n m h
theorem TableAt.same2 {K : PySem.W.Frag} {H H' : Hp} {p x d dx : Addr} {C : Addr} {fs : List (Str × V)} {kvs : List (Key × V)} {M : List Nat} (h : TableAt K H p M) (e : Same2 x d H H') (hx : H x = some (.ins C dx fs)) (hf : fs.lookup ("masks" : Str) = none) (hd : H d = some (.dK kvs)) : TableAt K H' p M := by
  obtain ⟨dx, t, c, h1, h2⟩ := h
  refine ⟨dx, t, c, e _ _ (ne_of h1 hx fun z => ?_) (ne_of h1 hd fun z => by cases z) h1, e _ _ (ne_of h2 hx fun z => ?_) (ne_of h2 hd fun z => ?_) h2⟩
  · injection z with _ _ z
    rw [← z] at hf
    cases hf
  · unfold ntup at z
    cases z
  · unfold ntup at z
    cases z
def updT (tb : Nat → List Nat) (c : Nat) (M : List Nat) : Nat → List Nat := fun l => if l = c then M else tb l
def spCastPut (K : PySem.W.Frag) (At : AtT) : Sp := fun vs H Q _ => ∃ (x d : Addr) (n : Nat) (tb : Nat → List Nat) (F : List (Nat × Addr)) (c : Nat) (p : Addr) (f : Nat → List Nat) (M : List Nat), vs = [.ref x, lV c, .ref p] ∧ CastAt K H x d n tb F ∧ c ∈ abc ∧ c ∉ F.map (·.1) ∧ F.length ≤ 7 ∧ At H p n f ∧ Mu.Rel n M ∧
  (∀ i, i < n → f i = Mu.bitsL (M.getD i 0)) ∧ ∀ H' t, Same2 x d H H' → CastAt K H' x d n (updT tb c M) (F ++ [(c, t)]) → Q .non H'
def spCastCheckLetters (K : PySem.W.Frag) : Sp := fun vs H Q _ => ∃ (x d : Addr) (n : Nat) (tb : Nat → List Nat) (F : List (Nat × Addr)) (R : List Nat), vs = [.ref x, .str (SX.S R)] ∧ CastAt K H x d n tb F ∧ (∀ l ∈ R, l ∈ F.map (·.1)) ∧ ∀ H', Same H H' → Q .non H'
def spCastLetters (K : PySem.W.Frag) : Sp := fun vs H Q _ => ∃ (x d : Addr) (n : Nat) (tb : Nat → List Nat) (F : List (Nat × Addr)), vs = [.ref x] ∧ CastAt K H x d n tb F ∧ RN H (.lst ((lets F).map lV)) Q
def spCastRowMasks (K : PySem.W.Frag) : Sp := fun vs H Q _ => ∃ (x d : Addr) (n : Nat) (tb : Nat → List Nat) (F : List (Nat × Addr)) (R : List Nat), vs = [.ref x, .str (SX.S R)] ∧ CastAt K H x d n tb F ∧ (∀ l ∈ R, l ∈ F.map (·.1)) ∧
  ∀ H' t, Same H H' → H' t = some (ntup (Mu.after tb (Mu.idm n) R)) → Q (.ref t) H'
def spCastThrough (K : PySem.W.Frag) : Sp := fun vs H Q _ => ∃ (x d : Addr) (n : Nat) (tb : Nat → List Nat) (F : List (Nat × Addr)) (R : List Nat), vs = [.ref x, .str (SX.S R)] ∧ CastAt K H x d n tb F ∧ (∀ l ∈ R, l ∈ F.map (·.1)) ∧ RT K H (Mu.after tb (Mu.idm n) R) Q
def spCastGetitem (K : PySem.W.Frag) : Sp := fun vs H Q _ => ∃ (x d : Addr) (n : Nat) (tb : Nat → List Nat) (F : List (Nat × Addr)) (c : Nat) (t : Addr), vs = [.ref x, lV c] ∧ CastAt K H x d n tb F ∧ F.lookup c = some t ∧ Q (.ref t) H
theorem S_get {R : List Nat} {i c : Nat} (h : (SX.S R).cps[i]? = some c) : R[i]? = some c := by
  have : (R.toArray)[i]? = some c := h
  simpa using this
theorem S_size (R : List Nat) : (SX.S R).cps.size = R.length := by
  show R.toArray.size = _
  simp
section
variable {P : Program} {w : World} {K : PySem.W.Frag} {mg : Str → Option Value} {base : Heap}
theorem scCastLetters : FnScope ["self"] ["self"] (defScope sCast_Letters) := fnScope_by (by decide +kernel)
theorem f_Cast_letters (T : Tx K mg) : ∃ fd, FnOk P w K mg base C8.CX0 1 (ma K (ga K "Cast") "letters") fd ["self"] (spCastLetters K) ∧ Binds K fd ["self"] [] := by
  refine fnM T.m_Cast_letters scCastLetters (fun _ _ _ _ _ _ us hl => match us, hl with | [_], _ => rfl) (fun vs H Q E h => ?_) (fun cdv A outer s H vs Q E hr h => ?_)
  · obtain ⟨_, _, _, _, _, rfl, _⟩ := h
    rfl
  · obtain ⟨x, d, n, tb, F, rfl, ⟨dx, r, hx, hd, hr1, ht, fok⟩, k⟩ := h
    have hu := hu_of hr
    refine ⟨_, (pss_one (ps_ret (pe_callTy (call_list_ofK (K := K) rfl) (by rfl) T.z_list (by decide +kernel) (pa_cons (pe_fldK (K := K) rfl (pv 0) rfl) pa_nil)))), ?_⟩
    exact ⟨_, rfl, x, _, dx, _, _, rfl, hx, T.c_Cast, T.n_Cast_roster, rfl, r, _, rfl, .inl (SqL.of hr1), fun l hl => k _ l (Same.upd (Same.refl _) hl) hl upd_same⟩
theorem scCastCheckLetters : FnScope ["self", "row", "place", "letter"] ["self", "row"] (defScope sCast_CheckLetters) := fnScope_by (by decide +kernel)
theorem f_Cast_check_letters (T : Tx K mg) : ∃ fd, FnOk P w K mg base C8.CX0 1 (ma K (ga K "Cast") "check_letters") fd ["self", "row"] (spCastCheckLetters K) ∧ Binds K fd ["self", "row"] [] := by
  refine fnM T.m_Cast_check_letters scCastCheckLetters (fun _ _ _ _ _ _ us hl => match us, hl with | [_, _], _ => rfl) (fun vs H Q E h => ?_) (fun cdv A outer s H vs Q E hr h => ?_)
  · obtain ⟨_, _, _, _, _, _, rfl, _⟩ := h
    rfl
  · obtain ⟨x, d, n, tb, F, R, rfl, ⟨dx, r, hx, hd, hr1, ht, fok⟩, hR, k⟩ := h
    have hu := hu_of hr
    refine ⟨_, (pss_one (ps_for PassesOwn.never rfl (pi_enumS (by rfl) T.z_enumerate (pa_cons (pv 1) pa_nil)) (pg_tup rfl (pgs_cons (pg_name (i := 2) scCastCheckLetters.nd rfl (Or.inl rfl)) (pgs_cons (pg_name (i := 3) scCastCheckLetters.nd rfl (Or.inl rfl)) pgs_nil)))
        (pss_one (ps_if (pt_cmp (pc_dnotin hu (pv 3) (pe_fldK (K := K) rfl (pv 0) rfl)))
          (pss_one ps_never)
          pss_nil)))), ?_⟩
    refine ⟨_, rfl, _, rfl, for_it (walk_enumS (z := SX.S R)) (fun i σ H' => Same H H' ∧ ∃ z1 z2, σ = [some (.ref x), some (.str (SX.S R)), z1, z2]) ⟨Same.refl _, _, _, rfl⟩ (fun _ _ _ _ _ => trivial) ?_ ?_⟩
    · rintro i v σ H1 H2 hi ⟨e, z1, z2, rfl⟩ ⟨t, c, rfl, ht, rfl, hc⟩
      have hcF := hR c (List.mem_of_getElem? (S_get hc))
      have e2 : Same H (L2.upd H1 t (.tup [V.int ((i : Nat) : Int), V.str ⟨#[c]⟩])) := Same.upd e ht
      refine ⟨_, _, rfl, SqT.of upd_same, rfl, _, _, rfl, _, _, rfl, rfl, ?_⟩
      refine ⟨_, rfl, _, rfl, x, _, dx, _, _, rfl, e2 _ _ hx, T.c_Cast, T.n_Cast_folk, rfl, d, _, rfl, DGet.k (k := lK c) (e2 _ _ hd), _, rfl, ?_⟩
      rw [valV_kvF, Option.isSome_map, lookup_isSome, decide_eq_true hcF]
      exact iteF ⟨e2, _, _, rfl⟩
    · rintro σ H1 ⟨e, z1, z2, rfl⟩
      exact k _ e
theorem scCastGetitem : FnScope ["self", "letter"] ["self", "letter"] (defScope sCast_Getitem) := fnScope_by (by decide +kernel)
theorem f_Cast___getitem__ (T : Tx K mg) : ∃ fd, FnOk P w K mg base C8.CX0 1 (ma K (ga K "Cast") "__getitem__") fd ["self", "letter"] (spCastGetitem K) ∧ Binds K fd ["self", "letter"] [] := by
  refine fnM T.m_Cast___getitem__ scCastGetitem (fun _ _ _ _ _ _ us hl => match us, hl with | [_, _], _ => rfl) (fun vs H Q E h => ?_) (fun cdv A outer s H vs Q E hr h => ?_)
  · obtain ⟨_, _, _, _, _, _, _, rfl, _⟩ := h
    rfl
  · obtain ⟨x, d, n, tb, F, c, t, rfl, ⟨dx, r, hx, hd, hr1, ht, fok⟩, hc, k⟩ := h
    have hu := hu_of hr
    refine ⟨_, (pss_cons (ps_if (pt_cmp (pc_dnotin hu (pv 1) (pe_fldK (K := K) rfl (pv 0) rfl)))
        (pss_one ps_never)
        pss_nil)
      (pss_one (ps_ret (pe_dget hu (pe_fldK (K := K) rfl (pv 0) rfl) (pv 1) (fun _ _ => rfl))))), ?_⟩
    refine ⟨_, rfl, _, rfl, x, _, dx, _, _, rfl, hx, T.c_Cast, T.n_Cast_folk, rfl, d, _, rfl, DGet.k (k := lK c) hd, _, rfl, ?_⟩
    rw [valV_kvF, hc]
    refine iteF ⟨_, rfl, x, _, dx, _, _, rfl, hx, T.c_Cast, T.n_Cast_folk, rfl, _, rfl, d, .ref t, rfl, ?_, k⟩
    have g := DGet.k (k := lK c) hd
    rw [valV_kvF, hc] at g
    exact g
theorem m_Cast_letters (T : Tx K mg) : Met P w K mg base 1 (ga K "Cast") "letters" (spCastLetters K) [] := by
  obtain ⟨fd, F, b⟩ := f_Cast_letters (P := P) (w := w) (base := base) T
  exact ⟨_, fd, _, [], T.c_Cast, T.h_Cast_letters, F, b, .nil⟩
theorem m_Cast_check_letters (T : Tx K mg) : Met P w K mg base 1 (ga K "Cast") "check_letters" (spCastCheckLetters K) [] := by
  obtain ⟨fd, F, b⟩ := f_Cast_check_letters (P := P) (w := w) (base := base) T
  exact ⟨_, fd, _, [], T.c_Cast, T.h_Cast_check_letters, F, b, .nil⟩
theorem scCastRowMasks : FnScope ["self", "row", "masks", "letter"] ["self", "row"] (defScope sCast_RowMasks) := fnScope_by (by decide +kernel)
theorem f_Cast_row_masks (T : Tx K mg) : ∃ fd, FnOk P w K mg base C8.CX0 3 (ma K (ga K "Cast") "row_masks") fd ["self", "row"] (spCastRowMasks K) ∧ Binds K fd ["self", "row"] [] := by
  refine fnM T.m_Cast_row_masks scCastRowMasks (fun _ _ _ _ _ _ us hl => match us, hl with | [_, _], _ => rfl) (fun vs H Q E h => ?_) (fun cdv A outer s H vs Q E hr h => ?_)
  · obtain ⟨_, _, _, _, _, _, rfl, _⟩ := h
    rfl
  · obtain ⟨x, d, n, tb, F, R, rfl, hC, hR, k⟩ := h
    have hu := hu_of hr
    refine ⟨_, (pss_cons (ps_expr (pe_mt (m_Cast_check_letters T) hr (by decide) (pv 0) (pa_cons (pv 1) pa_nil)))
      (pss_cons (ps_set (i := 2) scCastRowMasks.nd rfl (Or.inl rfl) (pe_c (c_identity_masks T) hr (by decide) rfl (pa_cons (pe_fldK (K := K) rfl (pv 0) rfl) pa_nil)))
      (pss_cons (ps_for PassesOwn.never rfl (pi_str (pv 1)) (pg_name (i := 3) scCastRowMasks.nd rfl (Or.inl rfl))
        (pss_one (ps_set (i := 2) scCastRowMasks.nd rfl (Or.inl rfl) (pe_c (c_product T) hr (by decide) rfl (pa_cons (pv 2) (pa_cons (pe_fldK (K := K) rfl (pe_dget hu (pe_fldK (K := K) rfl (pv 0) rfl) (pv 3) (fun _ _ => rfl)) rfl) pa_nil))))))
      (pss_one (ps_ret (pv 2)))))), ?_⟩
    obtain ⟨dx, r, hx, hd, hr1, ht, fok⟩ := id hC
    refine ⟨_, rfl, x, dx, _, rfl, hx, rfl, _, rfl, x, d, n, tb, F, R, rfl, hC, hR, fun H1 e1 => ?_⟩
    refine ⟨_, rfl, x, _, dx, _, _, rfl, e1 _ _ hx, T.c_Cast, T.n_Cast_size, rfl, n, rfl, fok.n3, fun H2 t0 e2 hn0 ht0 => ?_⟩
    have E2 := e1.trans e2
    have relA : ∀ i, Mu.Rel n (Mu.after tb (Mu.idm n) (R.take i)) := fun i => Mu.after_rel (Mu.idm_rel n) fun l hl => fok.rel l (hR l (List.mem_of_mem_take hl))
    refine ⟨_, rfl, _, rfl, for_it (walk_str (z := SX.S R)) (fun i σ H' => Same H H' ∧ ∃ z t, σ = [some (.ref x), some (.str (SX.S R)), some (.ref t), z] ∧ H' t = some (ntup (Mu.after tb (Mu.idm n) (R.take i)))) ⟨E2, _, t0, rfl, ht0⟩ (fun _ _ _ _ _ => trivial) ?_ ?_⟩
    · rintro i v σ H3 H4 hi ⟨e, z, t, rfl, ht3⟩ ⟨rfl, c, hc, rfl⟩
      have hRc := S_get hc
      have hcF := hR c (List.mem_of_getElem? hRc)
      obtain ⟨tc, hl, hm⟩ := lookup_some hcF
      obtain ⟨dy, tm, tcell, hy, hym⟩ := (ht _ hm).same e
      have g := DGet.k (k := lK c) (e _ _ hd)
      rw [valV_kvF, hl] at g
      refine ⟨_, rfl, _, rfl, x, _, dx, _, _, rfl, e _ _ hx, T.c_Cast, T.n_Cast_folk, rfl, _, rfl, d, .ref tc, rfl, g, ?_⟩
      refine ⟨tc, _, dy, _, _, rfl, hy, T.c_Table, T.n_Table_masks, rfl, t, tm, _, _, rfl, ht3, hym, Sm.rel fok.n3 (relA i), Sm.rel fok.n3 (fok.rel c hcF), fun H5 t5 e5 hn5 ht5 => ⟨e.trans e5, _, t5, rfl, ?_⟩⟩
      rw [List.take_add_one, hRc]
      show H5 t5 = some (ntup (Mu.after tb (Mu.idm n) (R.take i ++ [c])))
      rw [Mu.after_snoc]
      exact ht5
    · rintro σ H3 ⟨e, z, t, rfl, ht3⟩
      rw [S_size, List.take_length] at ht3
      exact ⟨_, rfl, k _ t e ht3⟩
end
end Mz
namespace Mz
open PySem PySem.Spec PyProof.Rows L2 He C8
theorem pe_nev {X : Cx} {e : Expr} : PE X e (fun _ _ _ => False) := ⟨fun _ _ _ _ _ _ h => h.elim⟩
section
variable {P : Program} {w : World} {K : PySem.W.Frag} {mg : Str → Option Value} {base : Heap}
/-- several promises of one def -/
theorem FnOk.or {k : Nat} {f : Addr} {fd : FuncData} {ps : List Str} {sp1 sp2 : Sp} (F : FnOk P w K mg base C8.CX0 k f fd ps sp1) (G : FnOk P w K mg base C8.CX0 k f fd ps sp2) : FnOk P w K mg base C8.CX0 k f fd ps (fun vs H Q E => sp1 vs H Q E ∨ sp2 vs H Q E) :=
  ⟨fun vs H Q E h => h.elim (F.len _ _ _ _) (G.len _ _ _ _), fun A outer s H args us vs Q E hr he hb hv hs => hs.elim (F.run A outer s H args us vs Q E hr he hb hv) (G.run A outer s H args us vs Q E hr he hb hv)⟩
/-- what Cast.put asks of a person's class -/
def PutK (P : Program) (w : World) (K : PySem.W.Frag) (mg : Str → Option Value) (base : Heap) (C : Addr) (At : AtT) : Prop := Kind P w K mg base C At ∧ ∃ (pr g : Addr) (fdT : FuncData), PropOf K C "table" pr g ∧ FnOk P w K mg base C8.CX0 7 g fdT ["self"] (spTab K At) ∧ Binds K fdT ["self"] []
def spPutAll (P : Program) (w : World) (K : PySem.W.Frag) (mg : Str → Option Value) (base : Heap) : Sp := fun vs H Q E => ∃ (C : Addr) (At : AtT), PutK P w K mg base C At ∧ spCastPut K At vs H Q E
theorem m_Cast_row_masks (T : Tx K mg) : Met P w K mg base 3 (ga K "Cast") "row_masks" (spCastRowMasks K) [] := by
  obtain ⟨fd, F, b⟩ := f_Cast_row_masks (P := P) (w := w) (base := base) T
  exact ⟨_, fd, _, [], T.c_Cast, T.h_Cast_row_masks, F.mono (by decide), b, .nil⟩
theorem scCastThrough : FnScope ["self", "row"] ["self", "row"] (defScope sCast_Through) := fnScope_by (by decide +kernel)
theorem f_Cast_through (T : Tx K mg) : ∃ fd, FnOk P w K mg base C8.CX0 6 (ma K (ga K "Cast") "through") fd ["self", "row"] (spCastThrough K) ∧ Binds K fd ["self", "row"] [] := by
  refine fnM T.m_Cast_through scCastThrough (fun _ _ _ _ _ _ us hl => match us, hl with | [_, _], _ => rfl) (fun vs H Q E h => ?_) (fun cdv A outer s H vs Q E hr h => ?_)
  · obtain ⟨_, _, _, _, _, _, rfl, _⟩ := h
    rfl
  · obtain ⟨x, d, n, tb, F, R, rfl, hC, hR, k⟩ := h
    have hu := hu_of hr
    refine ⟨_, (pss_one (ps_ret (pe_c (c_table_of_masks T) hr (by decide) rfl (pa_cons (pe_mt (m_Cast_row_masks T) hr (by decide) (pv 0) (pa_cons (pv 1) pa_nil)) pa_nil)))), ?_⟩
    obtain ⟨dx, r, hx, hd, hr1, ht, fok⟩ := id hC
    have rl : Mu.Rel n (Mu.after tb (Mu.idm n) R) := Mu.after_rel (Mu.idm_rel n) fun l hl => fok.rel l (hR l hl)
    refine ⟨_, rfl, x, dx, _, rfl, hx, rfl, _, rfl, x, d, n, tb, F, R, rfl, hC, hR, fun H1 t e1 ht1 => ?_⟩
    exact ⟨t, _, rfl, ht1, Sm.rel fok.n3 rl, by rw [rl.1]; exact fok.n1, by rw [rl.1]; exact rl.2, k.same e1⟩
theorem scCastPut : FnScope ["self", "letter", "person", "sign"] ["self", "letter", "person"] (defScope sCast_Put) := fnScope_by (by decide +kernel)
theorem f_Cast_put (T : Tx K mg) : ∃ fd, FnOk P w K mg base C8.CX0 9 (ma K (ga K "Cast") "put") fd ["self", "letter", "person"] (spPutAll P w K mg base) ∧ Binds K fd ["self", "letter", "person"] [] := by
  refine fnM T.m_Cast_put scCastPut (fun _ _ _ _ _ _ us hl => match us, hl with | [_, _, _], _ => rfl) (fun vs H Q E h => ?_) (fun cdv A outer s H vs Q E hr h => ?_)
  · obtain ⟨_, _, _, _, _, _, _, _, _, _, _, _, rfl, _⟩ := h
    rfl
  · obtain ⟨C, At, ⟨kd, pr, g, fdT, hpr, FT, bT⟩, x, d, n, tb, F, c, p, f, M, rfl, ⟨dx, r, hx, hd, hr1, ht, fok⟩, hc, hcF, hF7, hAt, hM, hf, k⟩ := h
    have hu := hu_of hr
    refine ⟨_, (pss_cons (ps_if (PW.pt (pw_or (pt_cmpR op_ne (pe_callB call_len_str (by rfl) T.z_len PySem.boot_len (pa_cons (pv 1) pa_nil)) pe_int (nomark _)) (pw_or1 (pt_cmpR op_notIn_sign (pv 1) (gc_LETTERS T) (by rfl)))))
        (pss_one ps_never)
        pss_nil)
      (pss_cons (ps_expr (pe_c (c_check_sizes T) hr (by decide) rfl (pa_cons (pe_fldK (K := K) rfl (pv 0) rfl) (pa_cons (pe_fldK (K := K) rfl (pv 2) rfl) pa_nil))))
      (pss_cons (ps_if (PW.pt (pw_and (pt_cmp (pc_dnotin hu (pv 1) (pe_fldK (K := K) rfl (pv 0) rfl))) (pw_and1 (pt_cmpR op_ge (pe_callB call_lenD (by rfl) T.z_len PySem.boot_len (pa_cons (pe_fldK (K := K) rfl (pv 0) rfl) pa_nil)) (gc_MOST_PEOPLE T) (nomark _)))))
        (pss_one ps_never)
        pss_nil)
      (pss_cons (ps_dput hu (pe_fldK (K := K) rfl (pv 0) rfl) (pv 1) (pe_prop (pv 2) kd.pc.cl hpr FT (hr.mono (by decide)) bT .nil (C8.pass0 (E := C8.E0)) rfl) rfl)
      (pss_one (ps_fld (pv 0) (pe_lc (own := [("sign", 3)]) (g := gName 3)  (rfl) scCastPut.nd (pi_str (gc_LETTERS T)) (blkOk_by (own := [("sign", 3)]) (N := ["self", "letter", "person", "sign"]) (sc := defScope sCast_Put) (by decide +kernel)) (fun _ _ _ _ _ => pg_name (i := 3) scCastPut.nd rfl (Or.inl rfl)) (fun _ _ _ _ _ => (pts_one (pt_cmp (pc_din hu (pv 3) (pe_fldK (K := K) rfl (pv 0) rfl))))) (fun _ _ _ _ _ => (pv 3))) rfl)))))), ?_⟩
    obtain ⟨dxp, fsp, hp, hsz, hsd⟩ := kd.ins hAt
    have hxd : x ≠ d := ne_of hx hd (fun z => by cases z)
    refine ⟨_, rfl, _, rfl, by show 1 ≤ sizeLine; decide, rfl, _, rfl, ?_⟩
    refine iteNS rfl ?_
    refine ⟨_, rfl, c, _, rfl, rfl, _, rfl, ?_⟩
    rw [abc_txt, decide_eq_true (show c ∈ (SX.S abc).cps.toList from hc)]
    refine iteF ⟨_, rfl, x, _, dx, _, _, rfl, hx, T.c_Cast, T.n_Cast_size, rfl, _, rfl, p, C, dxp, fsp, _, rfl, hp, kd.pc.cl, kd.pc.size, hsz, n, rfl, ?_⟩
    refine ⟨_, rfl, _, rfl, x, _, dx, _, _, rfl, hx, T.c_Cast, T.n_Cast_folk, rfl, d, _, rfl, DGet.k (k := lK c) hd, _, rfl, ?_⟩
    have hno : F.lookup c = none := lookup_none hcF
    rw [valV_kvF, hno]
    refine iteT ⟨_, rfl, x, _, dx, _, _, rfl, hx, T.c_Cast, T.n_Cast_folk, rfl, d, _, rfl, hd, _, _, rfl, rfl, _, rfl, ?_⟩
    have hkl : (kvF V.ref F).length = F.length := by unfold kvF; rw [List.length_map]
    rw [decide_eq_false (show ¬ (8 : Int) ≤ (((kvF V.ref F).length : Nat) : Int) by rw [hkl]; omega)]
    refine iteF ⟨_, rfl, p, dxp, fsp, rfl, hp, p, n, f, M, rfl, hAt, hM, hf, fun H1 t e1 hnt htT => ?_⟩
    refine ⟨_, rfl, x, _, dx, _, _, rfl, e1 _ _ hx, T.c_Cast, T.n_Cast_folk, rfl, _, rfl, d, _, rfl, DPut.k (k := lK c) (e1 _ _ hd) (small1000 (by rw [hkl]; omega)), ?_⟩
    have hput : putK (kvF V.ref F) (lK c) (V.ref t) = kvF V.ref (F ++ [(c, t)]) := by
      rw [putK_new _ (by rw [valV_kvF, hno]; rfl)]
      unfold kvF
      rw [List.map_append]
      rfl
    rw [hput]
    have s2 : Same2 x d H (L2.upd H1 d (.dK (kvF V.ref (F ++ [(c, t)])))) := (Same2.of e1).updd
    generalize hH2 : L2.upd H1 d (.dK (kvF V.ref (F ++ [(c, t)]))) = H2 at s2 ⊢
    have d2 : H2 d = some (.dK (kvF V.ref (F ++ [(c, t)]))) := by rw [← hH2, upd_same]
    have x2 : H2 x = some (.ins (ga K "Cast") dx [("size", nV n), ("folk", .ref d), ("roster", .ref r)]) := by rw [← hH2, upd_ne hxd]; exact e1 _ _ hx
    have t2 : TableAt K H2 t M := by
      rw [← hH2]
      refine htT.same2 (x := x) (d := d) (Same2.of (Same.refl _)).updd (e1 _ _ hx) rfl (e1 _ _ hd)
    refine ⟨_, rfl, fun D hD => ?_⟩
    refine lc_keep (walk_str (z := SX.S abc)) hD (fun i _ acc => acc = ((abc.take i).filter fun c' => decide (c' ∈ (F ++ [(c, t)]).map (·.1))).map lV) rfl (fun _ _ => trivial) ?_ ?_
    · rintro i v H3 H4 acc hi e hD1 rfl ⟨rfl, c', hc', rfl⟩
      have hci := S_get hc'
      refine ⟨rfl, _, rfl, _, rfl, x, _, dx, _, _, rfl, e _ _ x2, T.c_Cast, T.n_Cast_folk, rfl, d, _, rfl, DGet.k (k := lK c') (e _ _ d2), _, rfl, ?_⟩
      rw [valV_kvF, Option.isSome_map, lookup_isSome]
      have er : (abc.take (i + 1)).filter (fun c' => decide (c' ∈ (F ++ [(c, t)]).map (·.1))) = (abc.take i).filter (fun c' => decide (c' ∈ (F ++ [(c, t)]).map (·.1))) ++ (if decide (c' ∈ (F ++ [(c, t)]).map (·.1)) = true then [c'] else []) := by
        rw [List.take_add_one, hci, List.filter_append]
        congr 1
        show List.filter _ [c'] = _
        rw [List.filter_cons]
        rfl
      cases hb : decide (c' ∈ (F ++ [(c, t)]).map (·.1)) with
      | true =>
        rw [hb, if_pos rfl] at er
        refine iteT ⟨_, rfl, PvK.more hD e hD1 ?_ ?_⟩
        · rw [List.length_map]
          have h1 := List.length_filter_le (fun c' => decide (c' ∈ (F ++ [(c, t)]).map (·.1))) (abc.take i)
          have h2 : (abc.take i).length ≤ 26 := by rw [List.length_take]; exact Nat.min_le_right _ _
          omega
        · rw [er, List.map_append (f := lV)]
          rfl
      | false =>
        rw [hb, if_neg Bool.false_ne_true, List.append_nil] at er
        refine iteF ⟨_, e, hD1, ?_⟩
        show _ = List.map lV (List.filter (fun c' => decide (c' ∈ (F ++ [(c, t)]).map (·.1))) (abc.take (i + 1)))
        rw [er]
    · rintro H3 acc e hD' rfl
      have xD : x ≠ D := fun z => by
        rw [← z, x2] at hD
        cases hD
      have dD : D ≠ d := fun z => by
        rw [z, d2] at hD
        cases hD
      refine ⟨_, rfl, x, _, dx, _, rfl, e _ _ x2, T.c_Cast, T.n_Cast_roster, by show 3 < 1000; decide, ?_⟩
      have s4 : Same2 x d H (L2.upd H3 x (.ins (ga K "Cast") dx (putF "roster" (V.ref D) [("size", nV n), ("folk", .ref d), ("roster", .ref r)]))) := (s2.trans (Same2.of e)).updx
      have s5 : Same2 x d H2 (L2.upd H3 x (.ins (ga K "Cast") dx (putF "roster" (V.ref D) [("size", nV n), ("folk", .ref d), ("roster", .ref r)]))) := (Same2.of e).updx
      refine k _ t s4 ⟨dx, D, ?_, ?_, ?_, ?_, ?_⟩
      · rw [upd_same]
        rfl
      · rw [upd_ne hxd.symm]
        exact e _ _ d2
      · rw [upd_ne xD.symm, hD', S_size, List.take_length]
        rfl
      · intro q hq
        rcases List.mem_append.mp hq with hq | hq
        · have hqc : q.1 ≠ c := fun z => hcF (z ▸ List.mem_map_of_mem hq)
          unfold updT
          rw [if_neg hqc]
          exact (ht q hq).same2 s4 hx rfl hd
        · have : q = (c, t) := by simpa using hq
          subst this
          unfold updT
          rw [if_pos rfl]
          exact t2.same2 s5 x2 rfl d2
      · refine ⟨fok.n1, fok.n3, ?_, ?_, ?_, ?_⟩
        · rw [List.map_append]
          exact List.nodup_append.mpr ⟨fok.nd, by simp, fun a ha b hb z => hcF (by
            have : b = c := by simpa using hb
            rw [← this, ← z]
            exact ha)⟩
        · intro q hq
          rcases List.mem_append.mp hq with hq | hq
          · exact fok.abc q hq
          · have : q = (c, t) := by simpa using hq
            subst this
            exact hc
        · rw [List.length_append]
          show F.length + 1 ≤ 8
          omega
        · intro l hl
          unfold updT
          by_cases h : l = c
          · rw [if_pos h]
            exact hM
          · rw [if_neg h]
            rw [List.map_append] at hl
            rcases List.mem_append.mp hl with hl | hl
            · exact fok.rel l hl
            · exact absurd (by simpa using hl) h
/-- def f(a, .., **d), called without keywords: d is a new empty dict -/
theorem fn_kw {k : Nat} {f : Addr} {name qual : Str} {params : Arguments} {body : List Stmt} {scope : Scope} {dV kV doc pm cdv ct oc : Value} {an od : Option Addr} {osl : Array (Option Value)} {N ps : List Str} {sp : Sp} {pd : Str}
    (lk : K.lookup f = some ⟨oc, od, .func (PySem.W.fnOf name qual params body scope dV kV doc pm an cdv ct), osl⟩) (hcd : PySem.W.codeIn K cdv qual = true) (S : FnScope N (ps ++ [pd]) scope)
    (hb : ∀ us : List Value, us.length = ps.length → bindArgs (PySem.W.fnOf name qual params body scope dV kV doc pm an cdv ct) ⟨us, []⟩ = ((alloc ({ cls := .type "dict", data := .dict #[] } : Obj) : Sem Addr) >>= fun d => pure (ps.zip us ++ [(pd, Value.ref d)])))
    (hbody : ∀ (A : Around) (outer : List Env) (s : Shared) (H : Hp) (vs : List V) (Q : VK) (E : XK), Room k (A.deeper (envOfC qual scope s.heap.objs.size f cdv)) → sp vs H Q E →
      ∃ t, PSs (cxOf C8.CX0 P w K mg base N qual scope f cdv A outer s H E).nox body t ∧ t { nx := fun _ H' => Q .non H', rt := Q } (L2.start N vs) H) :
    FnR P w K mg base C8.CX0 (k + 1) f (fun vs H Q E => vs.length = ps.length ∧ ∀ d, H d = Option.none → sp (vs ++ [V.ref d]) (L2.upd H d (.dK [])) Q E) := by
  intro A outer s H us vs Q E hr e0 r hsp
  obtain ⟨hl, hq⟩ := hsp
  have hn : H s.heap.objs.size = Option.none := e0.hok.fresh (Nat.le_refl _)
  have hl1 : us.length = ps.length := by rw [← r.length]; exact hl
  refine StX.run_bnd lk hcd S hr e0 (G := fun xs H2 => ∃ d, H d = Option.none ∧ xs = vs ++ [V.ref d] ∧ H2 = L2.upd H d (.dK [])) (fun A' Ex Q' h => ?_) fun s2 H2 xs ⟨d, hd, ex, eH⟩ hr' => ?_
  · rw [hb us hl1]
    refine wpAny_bind (wpAny_alloc (wpAny_pure ?_))
    have e1 := StX.env0_laid (u := .dK []) (o := ({ cls := .type "dict", data := .dict #[] } : Obj)) e0 (dk_empty _ (StX.env0_big e0))
    have un := StX.un_laid (fs := frs outer) (s := s) (o := ({ cls := .type "dict", data := .dict #[] } : Obj)) (u := .dK []) hn
    have z := h _ _ (vs ++ [V.ref s.heap.objs.size]) (us ++ [Value.ref s.heap.objs.size]) e1 un rfl (fun e s' q => q.elim) (r.append (.cons rfl .nil)) (by rw [List.length_append, List.length_append, hl] <;> rfl) ⟨_, hn, rfl, rfl⟩
    rw [List.zip_append hl1.symm] at z
    exact z
  · subst ex eH
    obtain ⟨t, ht, q⟩ := hbody A outer s2 _ _ Q E hr' (hq d hd)
    exact ⟨t, ht.nox, q⟩
def spCastInit (K : PySem.W.Frag) : Sp := fun vs H Q _ => ∃ (x dx pd : Addr) (n : Nat), vs = [.ref x, nV n, .ref pd] ∧ H x = some (.ins (ga K "Cast") dx []) ∧ H pd = some (.dK []) ∧ 1 ≤ n ∧ n ≤ 3 ∧ ∀ H' d, SameX x H H' → H d = none → CastAt K H' x d n (fun _ => []) [] → Q .non H'
theorem scCastInit : FnScope ["self", "size", "people", "letter", "name"] ["self", "size", "people"] (defScope sCast_Init) := fnScope_by (by decide +kernel)
theorem r_Cast_init (T : Tx K mg) : FnR P w K mg base C8.CX0 2 (ma K (ga K "Cast") "__init__") (fun vs H Q E => vs.length = 2 ∧ ∀ d, H d = Option.none → spCastInit K (vs ++ [V.ref d]) (L2.upd H d (.dK [])) Q E) := by
  obtain ⟨fd, F⟩ := T.m_Cast___init__
  obtain ⟨oc, od, dV, kV, doc, pm, an, cdv, ct, osl, rfl, lk, hcd, hD, hK⟩ := F.ex
  obtain rfl : dV = .none := by
    rcases hD with ⟨_, e⟩ | ⟨e, _⟩
    · exact e
    · exact absurd rfl e
  refine fn_kw (ps := ["self", "size"]) (pd := "people") lk hcd scCastInit (fun us hl => match us, hl with | [_, _], _ => rfl) (fun A outer s H vs Q E hr h => ?_)
  obtain ⟨x, dx, pd, n, rfl, hx, hpd, n1, n3, k⟩ := h
  have hu := hu_of hr
  refine ⟨_, (pss_cons (ps_expr (pe_c (c_check_size T) hr (by decide) rfl (pa_cons (pv 1) pa_nil)))
      (pss_cons (ps_fld (pv 0) (pv 1) rfl)
      (pss_cons (ps_fld (pv 0) pe_dnewK rfl)
      (pss_cut (ps_fld (pv 0) (pe_lst pa_nil) rfl)
      (pss_one (ps_for PassesOwn.never rfl (pi_list (pe_callB cr_sortedS (by rfl) T.z_sorted (by decide +kernel) (pa_cons (pe_lock (pe_lc (own := [("name", 4)]) (g := gName 4) (tt := tYes) (rfl) scCastInit.nd (pi_keys (pv 2)) (blkOk_by (own := [("name", 4)]) (N := ["self", "size", "people", "letter", "name"]) (sc := defScope sCast_Init) (by decide +kernel)) (fun _ _ _ _ _ => pg_name (i := 4) scCastInit.nd rfl (Or.inl rfl)) (fun _ _ _ _ _ => pts_nil) (fun _ _ _ _ _ => pe_nev))) pa_nil))) (pg_name (i := 3) scCastInit.nd rfl (Or.inl rfl))
        (pss_one ps_never))))))), ?_⟩
  refine ⟨_, rfl, n, rfl, n1, by omega, ?_⟩
  refine ⟨_, rfl, _, rfl, x, _, dx, _, rfl, hx, T.c_Cast, T.n_Cast_size, by decide, ?_⟩
  have q1 : SameX x H (L2.upd H x (.ins (ga K "Cast") dx [("size", nV n)])) := SameX.upd SameX.refl
  refine fun d hd => ?_
  have dx1 : d ≠ x := fun z => by
    rw [z] at hd
    have hd' : L2.upd H x (.ins (ga K "Cast") dx [("size", nV n)]) x = none := hd
    rw [upd_same] at hd'
    cases hd'
  have hd0 : H d = none := by
    have hd' : L2.upd H x (.ins (ga K "Cast") dx [("size", nV n)]) d = none := hd
    rw [upd_ne dx1] at hd'
    exact hd'
  have q2 : SameX x H (L2.upd (L2.upd H x (.ins (ga K "Cast") dx [("size", nV n)])) d (.dK [])) := q1.trans (SameX.of (Same.upd (Same.refl _) hd))
  refine ⟨_, rfl, x, _, dx, [("size", nV n)], rfl, by rw [upd_ne dx1.symm, upd_same]; rfl, T.c_Cast, T.n_Cast_folk, by show 1 < 1000; decide, ?_⟩
  have q3 := q2.upd (o := .ins (ga K "Cast") dx [("size", nV n), ("folk", .ref d)])
  have es : L2.upd (L2.upd (L2.upd H x (.ins (ga K "Cast") dx (putF "size" (nV n) []))) d (.dK [])) x (.ins (ga K "Cast") dx (putF "folk" (V.ref d) [("size", nV n)])) = L2.upd (L2.upd (L2.upd H x (.ins (ga K "Cast") dx [("size", nV n)])) d (.dK [])) x (.ins (ga K "Cast") dx [("size", nV n), ("folk", .ref d)]) := rfl
  refine ⟨fun σ H' => σ = L2.start ["self", "size", "people", "letter", "name"] [V.ref x, nV n, V.ref pd] ∧ SameX x H H' ∧ CastAt K H' x d n (fun _ => []) [], ?_, ?_⟩
  · rw [es]
    have x3 : (L2.upd (L2.upd (L2.upd H x (.ins (ga K "Cast") dx [("size", nV n)])) d (.dK [])) x (.ins (ga K "Cast") dx [("size", nV n), ("folk", .ref d)])) x = some (.ins (ga K "Cast") dx [("size", nV n), ("folk", .ref d)]) := upd_same
    have d3 : (L2.upd (L2.upd (L2.upd H x (.ins (ga K "Cast") dx [("size", nV n)])) d (.dK [])) x (.ins (ga K "Cast") dx [("size", nV n), ("folk", .ref d)])) d = some (.dK []) := by rw [upd_ne dx1, upd_same]
    generalize L2.upd (L2.upd (L2.upd H x (.ins (ga K "Cast") dx [("size", nV n)])) d (.dK [])) x (.ins (ga K "Cast") dx [("size", nV n), ("folk", .ref d)]) = H3 at q3 x3 d3 ⊢
    refine ⟨by show 0 ≤ sizeLine; decide, fun r hr1 => ?_⟩
    have rx : r ≠ x := fun z => by
      rw [z, x3] at hr1
      cases hr1
    have rd : r ≠ d := fun z => by
      rw [z, d3] at hr1
      cases hr1
    refine ⟨_, rfl, x, _, dx, [("size", nV n), ("folk", .ref d)], rfl, by rw [upd_ne rx.symm]; exact x3, T.c_Cast, T.n_Cast_roster, by show 2 < 1000; decide, rfl, (q3.trans (SameX.of (Same.upd (Same.refl _) hr1))).upd, ?_⟩
    refine ⟨dx, r, by rw [upd_same]; rfl, by rw [upd_ne dx1, upd_ne rd.symm]; exact d3, by rw [upd_ne rx, upd_same]; unfold lets; simp, fun p hp => (by cases hp), ⟨n1, n3, by simp, fun p hp => (by cases hp), by simp, fun c hc => (by cases hc)⟩⟩
  rintro σ H5 ⟨rfl, e4, cast5⟩
  have pd5 : H5 pd = some (.dK []) := e4 _ _ (ne_of hpd hx (fun z => by cases z)) hpd
  refine ⟨pd, .dK [], pd5, trivial, fun od => ⟨_, rfl, pd, od, rfl, .inl ⟨[], upd_same, fun D hD => ?_⟩⟩⟩
  refine it_gen (walk_keys (kvs := [])) (fun _ H' => H' = L2.upd (L2.upd H5 pd (.frz od (.dK []))) D (.lst [])) rfl (fun _ H' e => by rw [e, upd_ne (fun z => by rw [← z, upd_same] at hD; cases hD), upd_same]) (fun i _ _ _ hi => absurd hi (Nat.not_lt_zero _)) ?_
  rintro H' rfl
  have Dpd : D ≠ pd := fun z => by
    rw [z, upd_same] at hD
    cases hD
  have hD5 : H5 D = none := by
    rw [upd_ne Dpd] at hD
    exact hD
  refine ⟨by rw [upd_ne Dpd.symm, upd_same], ?_⟩
  have e6 : Same H5 (L2.upd (L2.upd (L2.upd H5 pd (.frz od (.dK []))) D (.lst [])) pd (.dK [])) := fun b o h => by
    by_cases hb : b = pd
    · rw [hb, upd_same]
      rw [hb, pd5] at h
      exact h
    · rw [upd_ne hb, upd_ne (ne_of_none h hD5), upd_ne hb]
      exact h
  refine ⟨D, [], rfl, SqL.of (by rw [upd_ne Dpd, upd_same]; rfl), by decide, fun ys p pe _ hp => ?_⟩
  obtain rfl : ys = [] := List.Perm.eq_nil pe
  have e7 : Same H5 (L2.upd (L2.upd (L2.upd (L2.upd H5 pd (.frz od (.dK []))) D (.lst [])) pd (.dK [])) p (.lst [])) := Same.upd e6 hp
  refine ⟨p, rfl, ⟨[], SqL.of upd_same⟩, for_it (walk_list (xs := [])) (fun _ σ H' => H' = L2.upd (L2.upd (L2.upd (L2.upd H5 pd (.frz od (.dK []))) D (.lst [])) pd (.dK [])) p (.lst [])) rfl (fun _ _ H' _ e => by rw [e]; exact SqL.of upd_same) (fun i _ _ _ _ hi => absurd hi (Nat.not_lt_zero _)) ?_⟩
  rintro σ' H' rfl
  exact k _ d (e4.trans (SameX.of e7)) hd0 (cast5.same e7)
end
end Mz
/-! o[i] by an own __getitem__; o != u by an own __eq__ -/
namespace Mz
open PySem PySem.Spec PyProof.Rows L2 He C8
section
variable {X : Cx} {pins : List (Addr × Obj)} {σ : L2.St} {H : Hp} {s : Shared} {a C dx f : Addr} {fs : List (Str × V)} {k : Nat} {sp : Sp}
theorem inst_of (I : Inv X pins σ H s) (e : H a = some (.ins C dx fs)) : ∃ od, PySem.W.InstAt s.heap a (PySem.W.instObj C dx) C (some od) := by
  obtain ⟨mA, OM, _, _, _, _⟩ := ins_get I.hok e
  obtain ⟨o, es, ep, ho, _⟩ := OM.ns
  exact ⟨o, OM.obj, rfl, rfl, ho⟩
/-- a callee one level in -/
theorem run_in1 {Q : VK} {us : List Value} {vs : List V} (F : FnR X.prog X.w X.K X.mg X.base C8.CX0 k f sp) (hr : Room (k + 1) X.A) (I : Inv X pins σ H s) (r : Vals vs us) (h : sp vs H Q C8.E0) :
    wpAny (model X.prog X.w) X.A.in1 (call (.ref f) us) (EP X pins σ Q) X.xe s := by
  refine wpAny_call (codeAny_mono (F X.A.in1 X.stack s H us vs Q C8.E0 hr.in1 I.env0.in1 r h) fun r s' hq => ?_)
  cases r with
  | error e => exact hq.elim
  | ok fl =>
    cases fl with
    | ret u =>
      have z := I.after hq
      exact z
    | next => exact False.elim hq
    | brk => exact False.elim hq
    | cont => exact False.elim hq
/-- what of the text o[i] asks -/
structure SubOf (K : PySem.W.Frag) (C f : Addr) : Prop where
  at_ : PySem.W.findIn K (.ref C) "__getitem__" = some (some (.ref f))
  fn : PySem.W.fnIn K f = true
  is : PySem.W.isFn K (.ref f) = true
def tSubO (C : Addr) (sp : Sp) (ta tb : TE) : TE := fun σ H Q => ta σ H fun x H1 => tb σ H1 fun y H2 => ∃ a dx fs, x = .ref a ∧ H2 a = some (.ins C dx fs) ∧ sp [.ref a, y] H2 Q C8.E0
theorem pe_subO {o i : Expr} {ta tb : TE} {pos : Pos} (c : SubOf X.K C f) (F : FnR X.prog X.w X.K X.mg X.base C8.CX0 k f sp) (hr : Room (k + 1) X.A) (ho : PE X o ta) (hi : PE X i tb)
    (hsl : ∀ x v, subscripted i true (.ref x) v = runValue (.builtin "lifetime.subscript" ⟨[.ref x, v], []⟩) := by intro _ _; with_unfolding_all rfl) : PE X (.Subscript o i pos) (tSubO C sp ta tb) := by
  refine ⟨fun pins s σ H Q I h => ?_⟩
  refine Subscript_ (thn (ho.run pins s σ H _ I h) fun v s1 ⟨x, H1, I1, r1, q1⟩ => thn (hi.run pins s1 σ H1 _ I1 q1) fun u s2 ⟨y, H2, I2, r2, q2⟩ => ?_)
  obtain ⟨a, dx, fs, rfl, ha, q⟩ := q2
  obtain rfl : v = Value.ref a := r1
  obtain ⟨od, J⟩ := inst_of I2 ha
  obtain ⟨m, Fm⟩ := I2.fr
  exact PySem.W.sub_K Fm I2.mod.kin J c.at_ c.fn c.is (run_in1 F hr I2 (show Vals [.ref a, y] [Value.ref a, u] from .cons rfl (.cons r2 .nil)) q) (hsl a u)
/-- what of the text o != u asks -/
structure NeOf (K : PySem.W.Frag) (C f : Addr) : Prop where
  eq_ : PySem.W.findIn K (.ref C) "__eq__" = some (some (.ref f))
  ne_ : PySem.W.findIn K (.ref C) "__ne__" = some (some (.builtin "object.__ne__"))
  is : PySem.W.isFn K (.ref f) = true
  ob : PySem.W.mroIn K C (.type "object") = some true
def rNeO (C : Addr) (sp : Sp) : R2 := fun x y H Q => ∃ a b dx fs dy gs, x = .ref a ∧ y = .ref b ∧ H a = some (.ins C dx fs) ∧ H b = some (.ins C dy gs) ∧ sp [.ref a, .ref b] H (fun v H' => ∃ k, v = .bl k ∧ Q (.bl (!k)) H') C8.E0
theorem ne_call {b : Addr} {A : Around} {E : Value → Shared → Prop} {Q : Value → Shared → Prop} (c : NeOf X.K C f) (I : Inv X pins σ H s) (ha : H a = some (.ins C dx fs)) (hu : A.units + 1 < cLine)
    (h : wpAny (model X.prog X.w) A.in1 (call (.ref f) [.ref a, .ref b]) (fun v s' => ∃ k, v = .bool k ∧ Q (.bool (!k)) s') E s) : wpAny (model X.prog X.w) A (call (.builtin "object.__ne__") [.ref a, .ref b]) Q E s := by
  obtain ⟨od, J⟩ := inst_of I ha
  have sub : PySem.W.Looks (model X.prog X.w) s.heap (isInstance (.ref a) (.type "object")) true := J.type.andThen (PySem.W.looks_mroIn I.kIn c.ob)
  refine wpAny_call (codeAny_call_builtin F.cmp_object.ne.plain F.cmpEntry_ne (@PySem.W.check_slot (model X.prog X.w) _ _ s "object.__ne__" "object" "__ne__" (.ref a) [.ref b] [] _ F.cmpKind_ne F.cmpSplit_ne sub (F.cmpArgs_ne _ _) ?_))
  obtain ⟨hp, g, d, t, os⟩ := s
  have hu' : A.in1.units < cLine := hu
  unfold Builtin.«object.__ne__»
  repeat (first
    | with_reducible refine wpAny_cRoomFor hu' ?_
    | (refine wpAny_bind (m := callSpecialIfBound? (.ref a) (Str.ofString "__eq__") [.ref b])
        (PySem.W.ifBound_K I.kIn J c.eq_ c.is (wpAny_mono h (fun r s' hr => by
          obtain ⟨b, rfl, hq⟩ := hr
          repeat (first | exact hq | exact wpAny_pure hq | exact wpAny_truthy_bool hq | (refine wpAny_bind (m := truthy (.bool _)) (wpAny_truthy_bool ?_)) | wp_step)) fun _ _ e => e)))
    | wp_step)
theorem ne_try {b : Addr} {A : Around} {E : Value → Shared → Prop} {Q : Option Value → Shared → Prop} (c : NeOf X.K C f) (I : Inv X pins σ H s) (ha : H a = some (.ins C dx fs)) (hu : A.units + 1 < cLine)
    (h : wpAny (model X.prog X.w) A.in1 (call (.ref f) [.ref a, .ref b]) (fun v s' => ∃ k, v = .bool k ∧ Q (some (.bool (!k))) s') E s) : wpAny (model X.prog X.w) A (tryCompare (.ref a) "__ne__" (.ref b)) Q E s := by
  obtain ⟨od, J⟩ := inst_of I ha
  have hc : wpAny (model X.prog X.w) A (call (.builtin "object.__ne__") [.ref a, .ref b]) (fun v s' => ∃ k, v = .bool k ∧ Q (some (.bool k)) s') E s := by
    refine ne_call c I ha hu (wpAny_mono h (fun v s' ⟨k, e, q⟩ => ⟨k, e, !k, rfl, q⟩) fun _ _ e => e)
  unfold tryCompare
  refine wpAny_bind (wpAny_mono (Q := fun r s' => ∃ k, r = some (.bool k) ∧ Q (some (.bool k)) s') ?_ (fun r s' ⟨k, e, q⟩ => ?_) fun _ _ e => e)
  · simp only [callSpecialIfBound?, bindSpecialIfBound?]
    refine wpAny_holding (wpAny_bind (wpAny_bind (wpAny_bind (J.type.here ((PySem.W.looks_findIn I.kIn c.ne_).here ?_)))))
    refine wpAny_bind (wpAny_askSetting (wpAny_ite ?_))
    have fin : wpAny (model X.prog X.w) A (call (.builtin "object.__ne__") ([.ref a] ++ [.ref b]) >>= fun v => pure (some v)) (fun r s' => ∃ k, r = some (.bool k) ∧ Q (some (.bool k)) s') E s :=
      wpAny_bind (wpAny_mono hc (fun v s' ⟨k, e, q⟩ => wpAny_pure ⟨k, by rw [e], q⟩) fun _ _ h' => h')
    split
    · exact wpAny_bind (wpAny_of_eq (F.cmp_object.ne.bind _) (wpAny_pure (by exact fin)))
    · exact wpAny_tryCatch (wpAny_bind (wpAny_of_eq (F.cmp_object.ne.bind _) (wpAny_pure (by exact fin))))
  · subst e
    exact wpAny_pure q
theorem op_ne_own (c : NeOf X.K C f) (F : FnR X.prog X.w X.K X.mg X.base C8.CX0 k f sp) (hr : Room (k + 1) X.A) : OpR X (compareOp .NotEq) (rNeO C sp) := by
  intro pins s σ H x y u v Q I rx ry h
  obtain ⟨a, b, dx, fs, dy, gs, rfl, rfl, ha, hb, q⟩ := h
  obtain rfl : u = Value.ref a := rx
  obtain rfl : v = Value.ref b := ry
  obtain ⟨oda, Ja⟩ := inst_of I ha
  obtain ⟨odb, Jb⟩ := inst_of I hb
  have hu := hu_of hr
  have z := run_in1 F hr I (show Vals [.ref a, .ref b] [Value.ref a, Value.ref b] from .cons rfl (.cons rfl .nil)) q
  show wpAny _ _ (richCompare .NotEq (.ref a) (.ref b)) _ _ _
  unfold richCompare
  simp only [oneThing_ref]
  refine wpAny_holding (wpAny_bind (wpAny_cRoomFor (Nat.lt_of_succ_lt hu) ?_))
  rw [cmpInfo_NotEq]
  dsimp only
  refine wpAny_bind (Ja.type.here (wpAny_bind (Jb.type.here ?_)))
  rw [show (Value.ref C != Value.ref C) = false from by simp]
  simp only [Bool.false_eq_true, if_false]
  refine wpAny_bind (wpAny_pure ?_)
  simp only [Bool.false_eq_true, if_false]
  refine wpAny_bind (ne_try c I ha hu (wpAny_mono z (fun v s' hv => ?_) fun _ _ e => e))
  obtain ⟨v', H', I', rv, kk, rfl, qq⟩ := hv
  obtain rfl : v = Value.bool kk := rv
  exact ⟨kk, rfl, wpAny_pure ⟨.bl (!kk), H', I', rfl, qq⟩⟩
end
end Mz
/-! data: numbers, lists of them, lists of those -/
namespace Mz
open PySem PySem.Spec PyProof.Rows L2 He C8
abbrev dI (m : Nat) : PyData := .int ((m : Nat) : Int)
theorem dpI {K : PySem.W.Frag} {H : Hp} : ∀ A : List Nat, DpAll K H (A.map nV) (A.map dI)
  | [] => .nil
  | a :: A => .cons (.int _) (dpI A)
theorem eqvI : ∀ A B : List Nat, PyData.eqvAll (A.map dI) (B.map dI) = decide (A = B)
  | [], [] => rfl
  | [], b :: B => by rw [decide_eq_false (by simp)]; rfl
  | a :: A, [] => by rw [decide_eq_false (by simp)]; rfl
  | a :: A, b :: B => by
    have ih := eqvI A B
    show PyData.eqvAll (dI a :: A.map dI) (dI b :: B.map dI) = _
    rw [PyData.eqvAll, ih]
    have e : PyData.eqv (dI a) (dI b) = decide (a = b) := by
      show PyData.eqv (.int _) (.int _) = _
      rw [PyData.eqv]
      by_cases h : a = b
      · subst h
        simp
      · rw [decide_eq_false h, beq_eq_false_iff_ne]
        omega
    rw [e, ← Bool.decide_and]
    simp
theorem layI : ∀ A : List Nat, PyData.canLayAll0 (A.map dI) = true
  | [] => by simp [PyData.canLayAll0]
  | a :: A => by
    have ih := layI A
    rw [List.map_cons, PyData.canLayAll0, ih]
    simp [PyData.canLay0]
theorem depI : ∀ A : List Nat, PyData.depthAll (A.map dI) ≤ 1
  | [] => by simp [PyData.depthAll]
  | a :: A => by
    have ih := depI A
    rw [List.map_cons, PyData.depthAll]
    simp [PyData.depth]
    omega
theorem sh_of {d : PyData} (h : d.canLay0 = true) (h2 : d.depth ≤ 64) : SeqAt.shaped d = true := by
  show (d.canLay0 && decide (d.depth ≤ 64)) = true
  rw [Bool.and_eq_true]
  exact ⟨h, decide_eq_true h2⟩
theorem shT (A : List Nat) : SeqAt.shaped (.tuple (A.map dI)) = true := sh_of (by simp only [PyData.canLay0]; exact layI A) (by have := depI A; simp only [PyData.depth]; omega)
theorem shL (A : List Nat) : SeqAt.shaped (.list (A.map dI)) = true := sh_of (by simp only [PyData.canLay0]; exact layI A) (by have := depI A; simp only [PyData.depth]; omega)
theorem eqvT (A B : List Nat) : PyData.eqv (.tuple (A.map dI)) (.tuple (B.map dI)) = decide (A = B) := by rw [PyData.eqv, eqvI]
theorem eqvL (A B : List Nat) : PyData.eqv (.list (A.map dI)) (.list (B.map dI)) = decide (A = B) := by rw [PyData.eqv, eqvI]
abbrev dL (A : List Nat) : PyData := .list (A.map dI)
theorem layR : ∀ R : List (List Nat), PyData.canLayAll0 (R.map dL) = true
  | [] => by simp [PyData.canLayAll0]
  | A :: R => by
    have ih := layR R
    rw [List.map_cons, PyData.canLayAll0, ih]
    simp only [PyData.canLay0, layI A, Bool.and_self]
theorem depR : ∀ R : List (List Nat), PyData.depthAll (R.map dL) ≤ 2
  | [] => by simp [PyData.depthAll]
  | A :: R => by
    have ih := depR R
    have := depI A
    rw [List.map_cons, PyData.depthAll]
    simp only [PyData.depth]
    omega
theorem shR (R : List (List Nat)) : SeqAt.shaped (.list (R.map dL)) = true := sh_of (by simp only [PyData.canLay0]; exact layR R) (by have := depR R; simp only [PyData.depth]; omega)
theorem eqvR : ∀ A B : List (List Nat), PyData.eqvAll (A.map dL) (B.map dL) = decide (A = B)
  | [], [] => rfl
  | [], b :: B => by rw [decide_eq_false (by simp)]; rfl
  | a :: A, [] => by rw [decide_eq_false (by simp)]; rfl
  | a :: A, b :: B => by
    have ih := eqvR A B
    show PyData.eqvAll (dL a :: A.map dL) (dL b :: B.map dL) = _
    rw [PyData.eqvAll, ih, eqvL, ← Bool.decide_and]
    simp
theorem eqvRs (A B : List (List Nat)) : PyData.eqv (.list (A.map dL)) (.list (B.map dL)) = decide (A = B) := by rw [PyData.eqv, eqvR]
theorem dpT {K : PySem.W.Frag} {H : Hp} {t : Addr} {A : List Nat} (h : H t = some (ntup A)) : Dp K H (.ref t) (.tuple (A.map dI)) := .tup (SqT.of h) (dpI A)
theorem dpL {K : PySem.W.Frag} {H : Hp} {t : Addr} {A : List Nat} (h : H t = some (nlst A)) : Dp K H (.ref t) (dL A) := .lst (SqL.of h) (dpI A)
theorem dpPts {K : PySem.W.Frag} {H : Hp} : ∀ {ls : List Addr} {R : List (List Nat)}, Pts H ls (R.map nlst) → DpAll K H (ls.map V.ref) (R.map dL)
  | [], [], _ => .nil
  | [], _ :: _, h => by have := h.1; simp at this
  | _ :: _, [], h => by have := h.1; simp at this
  | a :: ls, r :: R, h => .cons (dpL (h.2 0 a _ rfl rfl)) (dpPts ⟨by have := h.1; simpa using this, fun i b o x y => h.2 (i + 1) b o (by simpa using x) (by simpa using y)⟩)
theorem dpR {K : PySem.W.Frag} {H : Hp} {l : Addr} {R : List (List Nat)} (h : RowsAt H l R) : Dp K H (.ref l) (.list (R.map dL)) := by
  obtain ⟨ls, h1, h2⟩ := h
  exact .lst (SqL.of h1) (dpPts h2)
end Mz
/-! find and count of one sign -/
namespace Mz
open PySem PySem.Spec PyProof.Rows L2 He C8 PySem.Builtin PySem.Builtin.Str PySem.StrLaws
/-- the places of a sign -/
def posL (c : Nat) : List Nat → Nat → List Nat
  | [], _ => []
  | a :: r, k => if a = c then k :: posL c r (k + 1) else posL c r (k + 1)
theorem posL_range (c : Nat) : ∀ (R : List Nat) (k : Nat), (List.range' k (R.length + 1)).filter (fun i => decide (R[i - k]? = some c)) = posL c R k
  | [], k => by
    unfold posL
    rw [List.filter_eq_nil_iff]
    intro i _
    simp
  | a :: r, k => by
    have ih := posL_range c r (k + 1)
    have e : (List.range' (k + 1) (r.length + 1)).filter (fun i => decide ((a :: r)[i - k]? = some c)) = (List.range' (k + 1) (r.length + 1)).filter (fun i => decide (r[i - (k + 1)]? = some c)) := by
      apply List.filter_congr
      intro i hi
      have h1 : k + 1 ≤ i := by
        have := List.mem_range'.mp hi
        omega
      have h2 : i - k = (i - (k + 1)) + 1 := by omega
      rw [h2, List.getElem?_cons_succ]
    unfold posL
    rw [List.length_cons, List.range'_succ, List.filter_cons, e, ih, Nat.sub_self]
    by_cases h : a = c
    · rw [if_pos h, if_pos (by simp [h])]
    · rw [if_neg h, if_neg (by simp [h])]
theorem posL_len (c : Nat) : ∀ (R : List Nat) (k : Nat), (posL c R k).length = R.count c
  | [], _ => rfl
  | a :: r, k => by
    have ih := posL_len c r (k + 1)
    unfold posL
    rw [List.count_cons]
    by_cases h : a = c
    · rw [if_pos h, List.length_cons, ih, if_pos (by simp [h])]
    · rw [if_neg h, ih, if_neg (by simp [h])]
      rfl
theorem posL_head (c : Nat) : ∀ (R : List Nat) (k : Nat), (posL c R k).head? = (Mu.idx c R).map (· + k)
  | [], _ => rfl
  | a :: r, k => by
    have ih := posL_head c r (k + 1)
    unfold posL Mu.idx
    by_cases h : a = c
    · rw [if_pos h, if_pos h]
      simp
    · rw [if_neg h, if_neg h, ih]
      cases Mu.idx c r with
      | none => rfl
      | some p =>
        show some (p + (k + 1)) = some (p + 1 + k)
        congr 1
        omega
theorem occ_go (R : List Nat) (c limit : Nat) : ∀ (m k : Nat) (acc : Array Nat) (free : Nat), free ≤ k → (forIn (List.range' k m) (acc, free) (occBody (SX.S R) (SX.S [c]) (SX.S R).length limit)).run.fst.toList = acc.toList ++ ((List.range' k m).filter fun i => decide (R[i]? = some c)).take (limit - acc.size)
  | 0, k, acc, free, _ => by simp
  | m + 1, k, acc, free, h => by
    rw [List.range'_succ, List.forIn_cons]
    have so : (k + (SX.S [c]).length ≤ (SX.S R).length ∧ subAt (SX.S R) (SX.S [c]) k = true) ↔ R[k]? = some c := subAt_one (SX.S R) c k
    unfold occBody
    by_cases hc : R[k]? = some c
    · obtain ⟨s1, s2⟩ := so.mpr hc
      by_cases hl : acc.size < limit
      · rw [if_pos ⟨⟨⟨hl, h⟩, s1⟩, s2⟩]
        have ih := occ_go R c limit m (k + 1) (acc.push k) (k + (SX.S [c]).length) (by rw [SX.S_len]; exact Nat.le_refl _)
        refine ih.trans ?_
        rw [List.filter_cons, if_pos (by simp [hc])]
        have e1 : limit - acc.size = (limit - (acc.push k).size) + 1 := by
          rw [Array.size_push]
          omega
        rw [e1, List.take_succ_cons, Array.toList_push, List.append_assoc]
        rfl
      · rw [if_neg (fun z => hl z.1.1.1)]
        have ih := occ_go R c limit m (k + 1) acc free (by omega)
        refine ih.trans ?_
        have e1 : limit - acc.size = 0 := by omega
        rw [e1]
        simp
    · rw [if_neg (fun z => hc (so.mp ⟨z.1.2, z.2⟩))]
      have ih := occ_go R c limit m (k + 1) acc free (by omega)
      refine ih.trans ?_
      rw [List.filter_cons, if_neg (by simp [hc])]
theorem occ_one (R : List Nat) (c limit : Nat) : occurrences (SX.S R) (SX.S [c]) 0 (SX.S R).length limit = (posL c R 0).take limit := by
  rw [occ_eq, occ_go R c limit _ 0 #[] 0 (Nat.le_refl _), ← posL_range c R 0, SX.S_len]
  simp
/-- the first place of a letter -/
theorem find_one (R : List Nat) (c : Nat) : Txt.find (SX.S R) (SX.S [c]) = match Mu.idx c R with | some p => ((p : Nat) : Int) | none => -1 := by
  have h := posL_head c R 0
  show (match occurrences (SX.S R) (SX.S [c]) 0 (SX.S R).length 1 with | i :: _ => (i : Int) | [] => -1) = _
  rw [occ_one]
  cases e : posL c R 0 with
  | nil =>
    rw [e] at h
    cases e2 : Mu.idx c R with
    | none => rfl
    | some p => rw [e2] at h; cases h
  | cons a r =>
    rw [e] at h
    cases e2 : Mu.idx c R with
    | none => rw [e2] at h; cases h
    | some p =>
      rw [e2] at h
      have h : a = p := Option.some.inj h
      rw [h]
      rfl
theorem count_one (R : List Nat) (c : Nat) : Txt.count (SX.S R) (SX.S [c]) = ((R.count c : Nat) : Int) := by
  show (((occurrences (SX.S R) (SX.S [c]) 0 (SX.S R).length ((SX.S R).length + 1)).length : Nat) : Int) = _
  rw [occ_one, List.length_take, posL_len, SX.S_len]
  have := List.count_le_length (a := c) (l := R)
  congr 1
  omega
end Mz
namespace Mz
open PySem PySem.Spec PyProof.Rows L2 He C8
/-- further facts: cast[..], table != table, isinstance(.., Table) -/
structure Tz (K : PySem.W.Frag) (mg : Str → Option Value) : Prop where
  y : Ty K mg
  sub : SubOf K (ga K "Cast") (ma K (ga K "Cast") "__getitem__")
  ne : NeOf K (ga K "Table") (ma K (ga K "Table") "__eq__")
  ins : InsC K (ga K "Table")
def spTableEq (K : PySem.W.Frag) : Sp := fun vs H Q _ => ∃ (a b : Addr) (A B : List Nat), vs = [.ref a, .ref b] ∧ TableAt K H a A ∧ TableAt K H b B ∧ Q (.bl (decide (A = B))) H
def spCommute (K : PySem.W.Frag) : Sp := fun vs H Q _ => ∃ (x d : Addr) (n : Nat) (tb : Nat → List Nat) (F : List (Nat × Addr)) (a b : Nat), vs = [.ref x, lV a, lV b] ∧ CastAt K H x d n tb F ∧ a ∈ F.map (·.1) ∧ b ∈ F.map (·.1) ∧ ∀ H', Same H H' → Q (.bl (Mu.comm tb a b)) H'
def spFrontPlace (K : PySem.W.Frag) : Sp := fun vs H Q _ => ∃ (x d : Addr) (n : Nat) (tb : Nat → List Nat) (F : List (Nat × Addr)) (R : List Nat) (c : Nat), vs = [.ref x, .str (SX.S R), lV c] ∧ CastAt K H x d n tb F ∧ (∀ l ∈ R, l ∈ F.map (·.1)) ∧ c ∈ F.map (·.1) ∧ R.length ≤ 900 ∧
  ∀ H', Same H H' → Q (.int (Mu.frontP (Mu.comm tb) R c)) H'
def spOnly : Sp := fun vs H Q _ => ∃ (R : List Nat) (a b : Nat), vs = [.str (SX.S R), .str (SX.S [a, b])] ∧ R.length ≤ 900 ∧ ∀ H', Same H H' → Q (.str (SX.S (Mu.filt a b R))) H'
theorem joinL_one : ∀ A : List Nat, TL.joinL [] (A.map fun c => [c]) = A
  | [] => rfl
  | [a] => rfl
  | a :: b :: A => by
    have ih := joinL_one (b :: A)
    show [a] ++ ([] ++ TL.joinL [] ((b :: A).map fun c => [c])) = _
    rw [ih]
    rfl
section
variable {P : Program} {w : World} {K : PySem.W.Frag} {mg : Str → Option Value} {base : Heap}
theorem scTableEq : FnScope ["self", "other"] ["self", "other"] (defScope sTable_Eq) := fnScope_by (by decide +kernel)
theorem f_Table_eq (Z : Tz K mg) : ∃ fd, FnOk P w K mg base C8.CX0 1 (ma K (ga K "Table") "__eq__") fd ["self", "other"] (spTableEq K) ∧ Binds K fd ["self", "other"] [] := by
  have T := Z.y.t
  refine fnM T.m_Table___eq__ scTableEq (fun _ _ _ _ _ _ us hl => match us, hl with | [_, _], _ => rfl) (fun vs H Q E h => ?_) (fun cdv A outer s H vs Q E hr h => ?_)
  · obtain ⟨_, _, _, _, rfl, _⟩ := h
    rfl
  · obtain ⟨a, b, A1, B1, rfl, ⟨dx, t, c, ha, ht⟩, ⟨dy, u, d, hb, hu1⟩, k⟩ := h
    have hu := hu_of hr
    refine ⟨_, (pss_one (ps_ret (pe_and (pe_callB (call_isC Z.ins) (by rfl) T.z_isinstance (by decide +kernel) (pa_cons (pv 1) (pa_cons (pe_glob (v := V.ref (ga K "Table")) rfl T.g_Table rfl) pa_nil))) (pe_one (pe_cmpR (op_eqDK (K := K) rfl hr.units) (pe_fldK (K := K) rfl (pv 0) rfl) (pe_fldK (K := K) rfl (pv 1) rfl) (nomark _)))))), ?_⟩
    refine ⟨_, rfl, b, dy, _, rfl, hb, true, rfl, ?_⟩
    refine iteT ⟨_, rfl, a, _, dx, _, _, rfl, ha, T.c_Table, T.n_Table_masks, rfl, _, rfl, b, _, dy, _, _, rfl, hb, T.c_Table, T.n_Table_masks, rfl, _, _, dpT ht, dpT hu1, shT _, shT _, ?_⟩
    rw [eqvT]
    exact k
theorem eqR (Z : Tz K mg) : FnR P w K mg base C8.CX0 1 (ma K (ga K "Table") "__eq__") (spTableEq K) := by
  obtain ⟨fd, F, b⟩ := f_Table_eq (P := P) (w := w) (base := base) Z
  exact raw0 F b
theorem getR (T : Tx K mg) : FnR P w K mg base C8.CX0 1 (ma K (ga K "Cast") "__getitem__") (spCastGetitem K) := by
  obtain ⟨fd, F, b⟩ := f_Cast___getitem__ (P := P) (w := w) (base := base) T
  exact raw0 F b
theorem scCommute : FnScope ["cast", "one", "other", "first", "last"] ["cast", "one", "other"] (defScope sCommute) := fnScope_by (by decide +kernel)
theorem c_commute (Z : Tz K mg) : Cal P w K mg base 3 "commute" (spCommute K) [] := by
  have T := Z.y.t
  refine calD T.d_commute T.g_commute scCommute (fun _ _ _ _ _ _ us hl => match us, hl with | [_, _, _], _ => rfl) (fun vs H Q E h => ?_) (fun cdv A outer s H vs Q E hr h => ?_)
  · obtain ⟨_, _, _, _, _, _, _, rfl, _⟩ := h
    rfl
  · obtain ⟨x, d, n, tb, F, a, b, rfl, hC, ha, hb, k⟩ := h
    have hu := hu_of hr
    refine ⟨_, (pss_cons (ps_set (i := 3) scCommute.nd rfl (Or.inl rfl) (pe_fldK (K := K) rfl (pe_subO Z.sub (getR T) (hr.mono (by decide)) (pv 0) (pv 1)) rfl))
      (pss_cons (ps_set (i := 4) scCommute.nd rfl (Or.inl rfl) (pe_fldK (K := K) rfl (pe_subO Z.sub (getR T) (hr.mono (by decide)) (pv 0) (pv 2)) rfl))
      (pss_one (ps_ret (pe_cmpR (op_eqDK (K := K) rfl hr.units) (pe_c (c_product T) hr (by decide) rfl (pa_cons (pv 3) (pa_cons (pv 4) pa_nil))) (pe_c (c_product T) hr (by decide) rfl (pa_cons (pv 4) (pa_cons (pv 3) pa_nil))) (nomark _)))))), ?_⟩
    obtain ⟨dx, r, hx, hd, hr1, ht, fok⟩ := id hC
    obtain ⟨ta, la, ma1⟩ := lookup_some ha
    obtain ⟨tb1, lb, mb⟩ := lookup_some hb
    obtain ⟨day, tam, tac, hya, hma⟩ := ht _ ma1
    obtain ⟨dby, tbm, tbc, hyb, hmb⟩ := ht _ mb
    refine ⟨_, rfl, _, rfl, x, dx, _, rfl, hx, x, d, n, tb, F, a, ta, rfl, hC, la, ta, _, day, _, _, rfl, hya, T.c_Table, T.n_Table_masks, rfl, ?_⟩
    refine ⟨_, rfl, _, rfl, x, dx, _, rfl, hx, x, d, n, tb, F, b, tb1, rfl, hC, lb, tb1, _, dby, _, _, rfl, hyb, T.c_Table, T.n_Table_masks, rfl, ?_⟩
    have sa := Sm.rel fok.n3 (fok.rel a ha)
    have sb := Sm.rel fok.n3 (fok.rel b hb)
    refine ⟨_, rfl, _, rfl, tam, tbm, _, _, rfl, hma, hmb, sa, sb, fun H1 t1 e1 hn1 ht1 => ?_⟩
    refine ⟨_, rfl, _, rfl, tbm, tam, _, _, rfl, e1 _ _ hmb, e1 _ _ hma, sb, sa, fun H2 t2 e2 hn2 ht2 => ?_⟩
    refine ⟨_, _, dpT (e2 _ _ ht1), dpT ht2, shT _, shT _, ?_⟩
    rw [eqvT]
    exact k _ (e1.trans e2)
theorem scFrontPlace : FnScope ["cast", "row", "letter", "place", "other"] ["cast", "row", "letter"] (defScope sFrontPlace) := fnScope_by (by decide +kernel)
theorem c_front_place (Z : Tz K mg) : Cal P w K mg base 4 "front_place" (spFrontPlace K) [] := by
  have T := Z.y.t
  refine calD T.d_front_place T.g_front_place scFrontPlace (fun _ _ _ _ _ _ us hl => match us, hl with | [_, _, _], _ => rfl) (fun vs H Q E h => ?_) (fun cdv A outer s H vs Q E hr h => ?_)
  · obtain ⟨_, _, _, _, _, _, _, rfl, _⟩ := h
    rfl
  · obtain ⟨x, d, n, tb, F, R, c, rfl, hC, hR, hc, hl, k⟩ := h
    have hu := hu_of hr
    refine ⟨_, (pss_cons (ps_set (i := 3) scFrontPlace.nd rfl (Or.inl rfl) (pe_m1 PySem.F.slot_str_find PySem.F.type_str_find mt_find (pv 1) (pv 2)))
      (pss_cons (ps_for PassesOwn.never rfl (pi_str (pe_slice C8.sl_txt (pv 1) po_none (po_some (pe_callB (call_max2 rfl) (by rfl) T.z_max (by decide +kernel) (pa_cons pe_int (pa_cons (pv 3) pa_nil)))))) (pg_name (i := 4) scFrontPlace.nd rfl (Or.inl rfl))
        (pss_one (ps_if (pt_not (pt_val (pe_c (c_commute Z) hr (by decide) rfl (pa_cons (pv 0) (pa_cons (pv 4) (pa_cons (pv 2) pa_nil))))))
          (pss_one (ps_ret (pe_un un_neg pe_int)))
          pss_nil)))
      (pss_one (ps_ret (pv 3))))), ?_⟩
    refine ⟨_, rfl, ⟨_, rfl⟩, _, rfl, _, _, rfl, rfl, ?_⟩
    have hfp : Mu.frontP (Mu.comm tb) R c = match Mu.idx c R with | none => -1 | some p => if (R.take p).all (fun o => Mu.comm tb o c) = true then ((p : Nat) : Int) else -1 := rfl
    obtain ⟨PL, p, h0, h1, h2⟩ : ∃ (PL : Int) (p : Nat), Txt.find (SX.S R) (SX.S [c]) = PL ∧ (if PL > 0 then PL else 0) = ((p : Nat) : Int) ∧ Mu.frontP (Mu.comm tb) R c = if (R.take p).all (fun o => Mu.comm tb o c) = true then PL else -1 := by
      rw [find_one]
      cases e : Mu.idx c R with
      | none =>
        rw [e] at hfp
        exact ⟨-1, 0, rfl, by decide, by rw [hfp]; simp⟩
      | some p =>
        rw [e] at hfp
        refine ⟨p, p, rfl, ?_, hfp⟩
        by_cases h : p = 0
        · subst h
          rfl
        · rw [if_pos (by omega)]
    rw [h0]
    refine ⟨_, rfl, _, rfl, _, _, rfl, ?_⟩
    rw [h1]
    refine ⟨_, rfl, SX.S R, rfl, by rw [SX.S_len]; exact Nat.le_of_lt (small1000 (Nat.le_trans hl (by decide))), ?_⟩
    rw [SX.slice_to (Int.natCast_nonneg _)]
    refine ⟨_, rfl, for_it (walk_str (z := SX.S (R.take p))) (fun i σ H' => Same H H' ∧ ((R.take p).take i).all (fun o => Mu.comm tb o c) = true ∧ ∃ z, σ = [some (.ref x), some (.str (SX.S R)), some (lV c), some (.int PL), z]) ⟨Same.refl _, by simp, _, rfl⟩ (fun _ _ _ _ _ => trivial) ?_ ?_⟩
    · rintro i v σ H1 H2 hi ⟨e1, hall, z, rfl⟩ ⟨rfl, o, ho, rfl⟩
      have hRo := S_get ho
      have hoR : o ∈ R := List.mem_of_mem_take (List.mem_of_getElem? hRo)
      refine ⟨_, rfl, _, rfl, _, rfl, x, d, n, tb, F, o, c, rfl, hC.same e1, hR o hoR, hc, fun H3 e3 => ⟨_, rfl, ?_⟩⟩
      cases hcm : Mu.comm tb o c with
      | true =>
        refine iteF ⟨e1.trans e3, ?_, _, rfl⟩
        rw [List.take_add_one, hRo, List.all_append, hall]
        simp [hcm]
      | false =>
        refine iteT ⟨_, rfl, ?_⟩
        have hno : (R.take p).all (fun o => Mu.comm tb o c) = false := by
          cases hb : (R.take p).all (fun o => Mu.comm tb o c) with
          | false => rfl
          | true =>
            have := List.all_eq_true.mp hb o (List.mem_of_getElem? hRo)
            rw [hcm] at this
            cases this
        have kk := k H3 (e1.trans e3)
        rw [h2, if_neg (by rw [hno]; exact Bool.false_ne_true)] at kk
        exact kk
    · rintro σ H1 ⟨e1, hall, z, rfl⟩
      rw [S_size, List.take_length] at hall
      have kk := k H1 e1
      rw [h2, if_pos hall] at kk
      exact ⟨_, rfl, kk⟩
theorem scOnly : FnScope ["row", "letters", "letter"] ["row", "letters"] (defScope sOnly) := fnScope_by (by decide +kernel)
theorem c_only (T : Tx K mg) : Cal P w K mg base 1 "only" spOnly [] := by
  refine calD T.d_only T.g_only scOnly (fun _ _ _ _ _ _ us hl => match us, hl with | [_, _], _ => rfl) (fun vs H Q E h => ?_) (fun cdv A outer s H vs Q E hr h => ?_)
  · obtain ⟨_, _, _, rfl, _⟩ := h
    rfl
  · obtain ⟨R, a, b, rfl, hl, k⟩ := h
    have hu := hu_of hr
    refine ⟨_, (pss_one (ps_ret (pe_join pe_str (pe_lc (own := [("letter", 2)]) (g := gName 2)  (rfl) scOnly.nd (pi_str (pv 0)) (blkOk_by (own := [("letter", 2)]) (N := ["row", "letters", "letter"]) (sc := defScope sOnly) (by decide +kernel)) (fun _ _ _ _ _ => pg_name (i := 2) scOnly.nd rfl (Or.inl rfl)) (fun _ _ _ _ _ => (pts_one (pt_cmpR op_in_sign (pv 2) (pv 1) (by rfl)))) (fun _ _ _ _ _ => (pv 2)))))), ?_⟩
    refine ⟨⟨_, rfl⟩, _, rfl, _, rfl, fun D hD => ?_⟩
    refine lc_keep (walk_str (z := SX.S R)) hD (fun i _ acc => acc = (Mu.filt a b (R.take i)).map lV) rfl (fun _ _ => trivial) ?_ ?_
    · rintro i x H1 H2 acc hi e hD1 rfl ⟨rfl, c, hc, rfl⟩
      have hRc := S_get hc
      have hi2 : i < R.length := by rw [S_size] at hi; exact hi
      refine ⟨rfl, _, rfl, _, rfl, c, _, rfl, rfl, _, rfl, ?_⟩
      have ed : decide (c ∈ (SX.S [a, b]).cps.toList) = (c == a || c == b) := by
        show decide (c ∈ [a, b]) = _
        simp [List.mem_cons, Bool.decide_or]
        rfl
      rw [ed]
      have er : Mu.filt a b (R.take (i + 1)) = Mu.filt a b (R.take i) ++ (if (c == a || c == b) = true then [c] else []) := by
        rw [List.take_add_one, hRc, Mu.filt_app]
        congr 1
        show List.filter _ [c] = _
        rw [List.filter_cons]
        rfl
      have hlen : (Mu.filt a b (R.take i)).length ≤ i := by
        refine Nat.le_trans (List.length_filter_le _ _) ?_
        rw [List.length_take]
        exact Nat.min_le_left _ _
      cases hd : (c == a || c == b) with
      | true =>
        rw [hd, if_pos rfl] at er
        refine iteT ⟨_, rfl, PvK.more hD e hD1 (by rw [List.length_map]; omega) ?_⟩
        rw [er, List.map_append (f := lV)]
        rfl
      | false =>
        rw [hd, if_neg Bool.false_ne_true, List.append_nil] at er
        refine iteF ⟨_, e, hD1, ?_⟩
        show _ = (Mu.filt a b (R.take (i + 1))).map lV
        rw [er]
    · rintro H' acc e hD' rfl
      rw [S_size, List.take_length] at hD'
      have hj : ((Mu.filt a b R).map fun c => SX.S [c]).map V.str = (Mu.filt a b R).map lV := by rw [List.map_map]; rfl
      refine ⟨SX.S [], D, (Mu.filt a b R).map fun c => SX.S [c], rfl, rfl, .inl (SqL.of (by rw [hj]; exact hD')), ?_, ?_⟩
      · have h1 : (((Mu.filt a b R).map fun c => SX.S [c]).map (·.length)).sum = (Mu.filt a b R).length := by
          rw [List.map_map]
          induction Mu.filt a b R with
          | nil => rfl
          | cons c l ih =>
            rw [List.map_cons, List.sum_cons, ih, List.length_cons]
            show 1 + _ = _
            omega
        rw [h1, SX.S_len]
        have h2 := List.length_filter_le (fun l => l == a || l == b) R
        have h3 : (Mu.filt a b R).length ≤ R.length := h2
        simp
        omega
      · have hjj : ((Mu.filt a b R).map fun c => SX.S [c]) = ((Mu.filt a b R).map fun c => [c]).map SX.S := by rw [List.map_map]; rfl
        rw [hjj, SX.join_S, joinL_one]
        exact k _ e
end
end Mz
namespace Mz
open PySem PySem.Spec PyProof.Rows L2 He C8
def spSwapPath (K : PySem.W.Frag) : Sp := fun vs H Q _ => ∃ (x d : Addr) (n : Nat) (tb : Nat → List Nat) (F : List (Nat × Addr)) (R O : List Nat), vs = [.ref x, .str (SX.S R), .str (SX.S O)] ∧ CastAt K H x d n tb F ∧ (∀ l ∈ R, l ∈ F.map (·.1)) ∧ (∀ l ∈ O, l ∈ F.map (·.1)) ∧ R.length ≤ 20 ∧ O.length ≤ 20 ∧
  (∀ H', Same H H' → (R.length ≠ O.length ∨ Mu.pathF (Mu.comm tb) 0 R O = none) → Q .non H') ∧ ∀ q, R.length = O.length → Mu.pathF (Mu.comm tb) 0 R O = some q → RN H (nlst q) Q
def spSwapClash (K : PySem.W.Frag) : Sp := fun vs H Q _ => ∃ (x d : Addr) (n : Nat) (tb : Nat → List Nat) (F : List (Nat × Addr)) (R O : List Nat), vs = [.ref x, .str (SX.S R), .str (SX.S O)] ∧ CastAt K H x d n tb F ∧ (∀ l ∈ R, l ∈ F.map (·.1)) ∧ (∀ l ∈ O, l ∈ F.map (·.1)) ∧ R.length ≤ 20 ∧ O.length ≤ 20 ∧
  (Mu.clashB (Mu.comm tb) (lets F) R O = false → ∀ H', Same H H' → Q .non H') ∧ (Mu.clashB (Mu.comm tb) (lets F) R O = true → ∀ H' t u, Same H H' → H' t = some (.tup u) → Q (.ref t) H')
theorem sz20 {a : List Nat} (h : a.length ≤ 60) : (SX.S a).length ≤ sizeLine := by rw [SX.S_len]; exact Nat.le_of_lt (small1000 (Nat.le_trans h (by decide)))
theorem desc_get (s p i : Nat) (h : i < p) : (Mu.desc s p)[i]? = some (s + (p - 1 - i)) := by
  unfold Mu.desc
  rw [List.getElem?_map, List.getElem?_reverse (by simpa using h), List.length_range, List.getElem?_range (by omega)]
  rfl
theorem desc_len (s p : Nat) : (Mu.desc s p).length = p := by unfold Mu.desc; simp
section
variable {P : Program} {w : World} {K : PySem.W.Frag} {mg : Str → Option Value} {base : Heap}
theorem scSwapPath : FnScope ["cast", "row", "other", "path", "start", "letter", "place", "rest", "at"] ["cast", "row", "other"] (defScope sSwapPath) := fnScope_by (by decide +kernel)
theorem c_swap_path (Z : Tz K mg) : Cal P w K mg base 5 "swap_path" (spSwapPath K) [] := by
  have T := Z.y.t
  refine calD T.d_swap_path T.g_swap_path scSwapPath (fun _ _ _ _ _ _ us hl => match us, hl with | [_, _, _], _ => rfl) (fun vs H Q E h => ?_) (fun cdv A outer s H vs Q E hr h => ?_)
  · obtain ⟨_, _, _, _, _, _, _, rfl, _⟩ := h
    rfl
  · obtain ⟨x, d, n, tb, F, R, O, rfl, hC, hR, hO, hl, hlO, kn, ks⟩ := h
    have hu := hu_of hr
    refine ⟨_, (pss_cons (ps_expr (pe_mt (m_Cast_check_letters T) hr (by decide) (pv 0) (pa_cons (pv 1) pa_nil)))
      (pss_cons (ps_expr (pe_mt (m_Cast_check_letters T) hr (by decide) (pv 0) (pa_cons (pv 2) pa_nil)))
      (pss_cons (ps_if (pt_cmpR op_ne (pe_callB call_len_str (by rfl) T.z_len PySem.boot_len (pa_cons (pv 1) pa_nil)) (pe_callB call_len_str (by rfl) T.z_len PySem.boot_len (pa_cons (pv 2) pa_nil)) (nomark _))
        (pss_one (ps_ret pe_non))
        pss_nil)
      (pss_cons (ps_set (i := 3) scSwapPath.nd rfl (Or.inl rfl) (pe_lst pa_nil))
      (pss_cons (ps_for PassesOwn.never rfl (pi_enumS (by rfl) T.z_enumerate (pa_cons (pv 2) pa_nil)) (pg_tup rfl (pgs_cons (pg_name (i := 4) scSwapPath.nd rfl (Or.inr rfl)) (pgs_cons (pg_name (i := 5) scSwapPath.nd rfl (Or.inl rfl)) pgs_nil)))
        (pss_cons (ps_set (i := 6) scSwapPath.nd rfl (Or.inl rfl) (pe_c (c_front_place Z) hr (by decide) rfl (pa_cons (pv 0) (pa_cons (pe_slice C8.sl_txt (pv 1) (po_some (pv 4)) po_none) (pa_cons (pv 5) pa_nil)))))
        (pss_cons (ps_if (pt_cmpR op_lt (pv 6) pe_int (nomark _))
          (pss_one (ps_ret pe_non))
          pss_nil)
        (pss_cons (ps_expr (pe_bm PySem.F.plainAttrs_list PySem.F.slot_list_extend PySem.F.type_list_extend mt_extend (pv 3) (pa_cons (pe_lc (own := [("at", 8)]) (g := gName 8) (tt := tYes)  (rfl) scSwapPath.nd (pi_range3 rfl T.z_range (pa_cons (pe_op op_sub (pv 6) pe_int) (pa_cons (pe_un un_neg pe_int) (pa_cons (pe_un un_neg pe_int) pa_nil)))) (blkOk_by (own := [("at", 8)]) (N := ["cast", "row", "other", "path", "start", "letter", "place", "rest", "at"]) (sc := defScope sSwapPath) (by decide +kernel)) (fun _ _ _ _ _ => pg_name (i := 8) scSwapPath.nd rfl (Or.inl rfl)) (fun _ _ _ _ _ => pts_nil) (fun _ _ _ _ _ => (pe_op op_add (pv 4) (pv 8)))) pa_nil)))
        (pss_cons (ps_set (i := 7) scSwapPath.nd rfl (Or.inl rfl) (pe_slice C8.sl_txt (pv 1) (po_some (pv 4)) po_none))
        (pss_one (ps_set (i := 1) scSwapPath.nd rfl (Or.inl rfl) (pe_op op_add_str (pe_op op_add_str (pe_op op_add_str (pe_slice C8.sl_txt (pv 1) po_none (po_some (pv 4))) (pv 5)) (pe_slice C8.sl_txt (pv 7) po_none (po_some (pv 6)))) (pe_slice C8.sl_txt (pv 7) (po_some (pe_op op_add (pv 6) pe_int)) po_none)))))))))
      (pss_one (ps_ret (pv 3)))))))), ?_⟩
    obtain ⟨dx, r, hx, hd, hr1, ht, fok⟩ := id hC
    refine ⟨_, rfl, x, dx, _, rfl, hx, rfl, _, rfl, x, d, n, tb, F, R, rfl, hC, hR, fun H1 e1 => ?_⟩
    refine ⟨_, rfl, x, dx, _, rfl, e1 _ _ hx, rfl, _, rfl, x, d, n, tb, F, O, rfl, hC.same e1, hO, fun H2 e2' => ?_⟩
    have e2 := e1.trans e2'
    refine ⟨_, rfl, _, rfl, sz20 (by omega), _, rfl, _, rfl, sz20 (by omega), rfl, _, rfl, ?_⟩
    rw [SX.S_len, SX.S_len]
    by_cases hlen : R.length = O.length
    · refine iteNS (by rw [hlen]) ?_
      refine ⟨Nat.zero_le _, fun l hl0 => ?_⟩
      have hlH : H l = none := e2.free hl0
      refine ⟨_, rfl, _, rfl, for_it (walk_enumS (z := SX.S O)) (fun i σ H' => ∃ q rest z4 z5 z6 z7, σ = [some (.ref x), some (.str (SX.S (O.take i ++ rest))), some (.str (SX.S O)), some (.ref l), z4, z5, z6, z7, none] ∧ Same H H' ∧ H' l = some (nlst q) ∧ rest.length = O.length - i ∧ (∀ a ∈ rest, a ∈ F.map (·.1)) ∧
          Mu.pathF (Mu.comm tb) 0 R O = (Mu.pathF (Mu.comm tb) i rest (O.drop i)).map (q ++ ·) ∧ q.length ≤ 20 * i)
        ⟨[], R, none, none, none, none, by rw [List.take_zero]; rfl, Same.upd e2 hl0, upd_same, by omega, hR, ?_, by simp⟩ (fun _ _ _ _ _ => trivial) ?_ ?_⟩
      · rw [List.drop_zero]
        cases Mu.pathF (Mu.comm tb) 0 R O <;> rfl
      · rintro i v σ H3 H4 hi ⟨q, rest, z4, z5, z6, z7, rfl, e3, hq3, hrl, hrest, hpath, hql⟩ ⟨t, c, rfl, ht4, rfl, hc⟩
        have hOc := S_get hc
        have hi2 : i < O.length := by rw [S_size] at hi; exact hi
        have hcF : c ∈ F.map (·.1) := hO c (List.mem_of_getElem? hOc)
        have hdrop : O.drop i = c :: O.drop (i + 1) := by
          rw [List.drop_eq_getElem_cons hi2]
          have := List.getElem?_eq_getElem hi2
          rw [hOc] at this
          rw [← Option.some.inj this]
        have htl : (O.take i).length = i := by rw [List.length_take]; omega
        have e4 : Same H (L2.upd H3 t (.tup [V.int ((i : Nat) : Int), V.str ⟨#[c]⟩])) := Same.upd e3 ht4
        have q4 : (L2.upd H3 t (.tup [V.int ((i : Nat) : Int), V.str ⟨#[c]⟩])) l = some (nlst q) := by rw [upd_ne (ne_of_none hq3 ht4)]; exact hq3
        have t4 : (L2.upd H3 t (.tup [V.int ((i : Nat) : Int), V.str ⟨#[c]⟩])) t = some (.tup [V.int ((i : Nat) : Int), V.str ⟨#[c]⟩]) := upd_same
        generalize hH4 : L2.upd H3 t (.tup [V.int ((i : Nat) : Int), V.str ⟨#[c]⟩]) = H4 at e4 q4 t4 ⊢
        have hsl : Txt.slice (SX.S (O.take i ++ rest)) (some ((i : Nat) : Int)) none = SX.S rest := SX.from_app _ _ (by rw [htl])
        have hsl2 : Txt.slice (SX.S (O.take i ++ rest)) none (some ((i : Nat) : Int)) = SX.S (O.take i) := SX.to_app _ _ (by rw [htl])
        have hsz : (SX.S (O.take i ++ rest)).length ≤ sizeLine := sz20 (by rw [List.length_append, htl, hrl]; omega)
        refine ⟨_, _, rfl, SqT.of t4, rfl, _, _, rfl, _, _, rfl, rfl, ?_⟩
        refine ⟨_, rfl, _, rfl, _, rfl, _, rfl, _, rfl, hsz, _, rfl, x, d, n, tb, F, rest, c, by rw [hsl]; rfl, hC.same e4, hrest, hcF, by omega, fun H5 e5 => ?_⟩
        refine ⟨_, rfl, _, _, rfl, rfl, _, rfl, ?_⟩
        cases hneg : decide (Mu.frontP (Mu.comm tb) rest c < 0) with
        | true =>
          refine iteT (kn H5 (e4.trans e5) (.inr ?_))
          rw [hpath, hdrop]
          unfold Mu.pathF
          rw [if_pos (of_decide_eq_true hneg)]
          rfl
        | false =>
          have hnn := of_decide_eq_false hneg
          obtain ⟨xa, ya, hrx, hfp, hnx, hcx⟩ := Mu.frontP_ok (c := Mu.comm tb) (row := rest) (l := c) (by omega)
          rw [hfp]
          have hxa : xa.length ≤ 20 := by
            have := congrArg List.length hrx
            simp at this
            omega
          refine iteF ⟨_, rfl, .inl ⟨rfl, _, SqL.of (e5 _ _ q4)⟩, _, rfl, _, _, rfl, rfl, _, rfl, _, rfl, ((xa.length : Nat) : Int) - 1, -1, -1, _, rfl, RgC.neg (by omega) (by omega) (by decide) (by decide), fun D hD => ?_⟩
          have hn : ((((xa.length : Nat) : Int) - 1 - -1)).toNat = xa.length := by omega
          rw [hn]
          refine lc_keep (walk_rangeC (n := xa.length)) hD (fun j _ acc => acc = ((Mu.desc i xa.length).take j).map nV) rfl (fun _ _ => trivial) ?_ ?_
          · rintro j v H6 H7 acc hj e7 hD1 rfl ⟨rfl, rfl⟩
            refine ⟨rfl, _, rfl, _, rfl, _, _, rfl, rfl, PvK.more hD e7 hD1 ?_ ?_⟩
            · rw [List.length_map, List.length_take]
              omega
            · rw [List.take_add_one, desc_get i xa.length j hj, List.map_append]
              show _ = _ ++ [nV _]
              congr 2
              show V.int (((i : Nat) : Int) + ((((xa.length : Nat) : Int) - 1) + ((j : Nat) : Int) * -1)) = V.int _
              congr 1
              omega
          · rintro H6 acc e6 hD6 rfl
            rw [List.take_of_length_le (by rw [desc_len]; exact Nat.le_refl _)] at hD6
            have q6 : H6 l = some (nlst q) := e6 _ _ (e5 _ _ q4)
            refine ⟨l, D, _, _, rfl, rfl, q6, hD6, ?_, ?_⟩
            · rw [List.length_map, List.length_map, desc_len]
              refine Nat.le_of_lt (small1000 ?_)
              omega
            have e7 : Same H (L2.upd H6 l (.lst (q.map nV ++ (Mu.desc i xa.length).map nV))) := Same.updn (e4.trans (e5.trans e6)) hlH
            have hrl2 : rest.length ≤ 20 := by omega
            have hszr : (SX.S rest).length ≤ sizeLine := sz20 (by omega)
            have w2 : Txt.slice (SX.S rest) none (some ((xa.length : Nat) : Int)) = SX.S xa := by
              rw [hrx]
              exact SX.to_app xa (c :: ya) rfl
            have w3 : Txt.slice (SX.S rest) (some (((xa.length : Nat) : Int) + 1)) none = SX.S ya := by
              have e0 : rest = (xa ++ [c]) ++ ya := by rw [hrx]; simp
              rw [e0]
              exact SX.from_app (xa ++ [c]) ya (by simp)
            refine ⟨_, rfl, _, rfl, _, rfl, _, rfl, hsz, ?_⟩
            rw [hsl]
            refine ⟨_, rfl, _, rfl, _, rfl, _, rfl, hsz, ?_⟩
            rw [hsl2]
            refine ⟨_, rfl, _, _, rfl, rfl, ?_, ?_⟩
            · show (SX.S (O.take i)).length + (SX.S [c]).length ≤ sizeLine
              rw [SX.S_len, SX.S_len, htl]
              exact Nat.le_of_lt (small1000 (by show i + 1 ≤ 1000; omega))
            have ec : (SX.S (O.take i) ++ (⟨#[c]⟩ : Str)) = SX.S (O.take i ++ [c]) := SX.S_cat (O.take i) [c]
            rw [ec]
            refine ⟨_, rfl, _, rfl, _, rfl, _, rfl, hszr, ?_⟩
            rw [w2]
            refine ⟨_, _, rfl, rfl, ?_, ?_⟩
            · rw [SX.S_len, SX.S_len, List.length_append, htl]
              exact Nat.le_of_lt (small1000 (by show i + 1 + xa.length ≤ 1000; omega))
            rw [SX.S_cat]
            refine ⟨_, rfl, _, rfl, _, _, rfl, rfl, _, rfl, _, rfl, hszr, ?_⟩
            rw [w3]
            have hya : xa.length + (ya.length + 1) = rest.length := by rw [hrx]; simp
            refine ⟨_, _, rfl, rfl, ?_, ?_⟩
            · rw [SX.S_len, SX.S_len, List.length_append, List.length_append, htl]
              exact Nat.le_of_lt (small1000 (by show i + 1 + xa.length + ya.length ≤ 1000; omega))
            rw [SX.S_cat]
            have htk : O.take (i + 1) = O.take i ++ [c] := by rw [List.take_add_one, hOc]; rfl
            refine ⟨q ++ Mu.desc i xa.length, xa ++ ya, some (.int ((i : Nat) : Int)), some (lV c), some (.int ((xa.length : Nat) : Int)), some (.str (SX.S rest)), ?_, e7, ?_, ?_, ?_, ?_, ?_⟩
            · rw [htk, ← List.append_assoc (O.take i ++ [c]) xa ya]
              rfl
            · rw [upd_same]
              unfold nlst
              rw [List.map_append]
            · rw [List.length_append]
              omega
            · intro a ha
              refine hrest a ?_
              rw [hrx]
              rcases List.mem_append.mp ha with h | h
              · exact List.mem_append_left _ h
              · exact List.mem_append_right _ (List.mem_cons_of_mem _ h)
            · rw [hpath, hdrop]
              have e1 : Mu.pathF (Mu.comm tb) i rest (c :: O.drop (i + 1)) = (Mu.pathF (Mu.comm tb) (i + 1) (rest.take (Mu.frontP (Mu.comm tb) rest c).toNat ++ rest.drop ((Mu.frontP (Mu.comm tb) rest c).toNat + 1)) (O.drop (i + 1))).map fun q => Mu.desc i (Mu.frontP (Mu.comm tb) rest c).toNat ++ q := by
                show (if _ then _ else _) = _
                rw [if_neg hnn]
              have e2 : (Mu.frontP (Mu.comm tb) rest c).toNat = xa.length := by rw [hfp]; rfl
              rw [e1, e2]
              have e3 : rest.take xa.length = xa := by rw [hrx]; simp
              have e4 : rest.drop (xa.length + 1) = ya := by rw [hrx]; simp
              rw [e3, e4]
              cases Mu.pathF (Mu.comm tb) (i + 1) (xa ++ ya) (O.drop (i + 1)) with
              | none => rfl
              | some q' =>
                show some (q ++ (Mu.desc i xa.length ++ q')) = some (q ++ Mu.desc i xa.length ++ q')
                rw [List.append_assoc]
            · rw [List.length_append, desc_len]
              omega
      · rintro σ H3 ⟨q, rest, z4, z5, z6, z7, rfl, e3, hq3, hrl, hrest, hpath, hql⟩
        rw [S_size, List.drop_length] at hpath
        have hp : Mu.pathF (Mu.comm tb) 0 R O = some q := by
          rw [hpath]
          unfold Mu.pathF
          show some (q ++ []) = _
          rw [List.append_nil]
        exact ⟨_, rfl, ks q hlen hp _ l e3 hlH hq3⟩
    · rw [decide_eq_false (show ¬ V.int ((R.length : Nat) : Int) = V.int ((O.length : Nat) : Int) by intro z; injection z with z; omega)]
      exact iteT (kn H2 e2 (.inl hlen))
theorem lt_one (a b : Nat) : decide ((SX.S [a]).cps.toList < (SX.S [b]).cps.toList) = decide (a < b) := by
  show decide ([a] < [b]) = _
  have e : ([a] < [b]) ↔ a < b := by
    rw [List.cons_lt_cons_iff]
    simp
  by_cases h : a < b
  · rw [decide_eq_true h, decide_eq_true (e.mpr h)]
  · rw [decide_eq_false h, decide_eq_false (fun z => h (e.mp z))]
theorem scSwapClash : FnScope ["cast", "row", "other", "letters", "letter", "one", "two"] ["cast", "row", "other"] (defScope sSwapClash) := fnScope_by (by decide +kernel)
theorem c_swap_clash (Z : Tz K mg) : Cal P w K mg base 4 "swap_clash" (spSwapClash K) [] := by
  have T := Z.y.t
  refine calD T.d_swap_clash T.g_swap_clash scSwapClash (fun _ _ _ _ _ _ us hl => match us, hl with | [_, _, _], _ => rfl) (fun vs H Q E h => ?_) (fun cdv A outer s H vs Q E hr h => ?_)
  · obtain ⟨_, _, _, _, _, _, _, rfl, _⟩ := h
    rfl
  · obtain ⟨x, d, n, tb, F, R, O, rfl, hC, hR, hO, hl, hlO, kn, ks⟩ := h
    have hu := hu_of hr
    refine ⟨_, (pss_cons (ps_expr (pe_mt (m_Cast_check_letters T) hr (by decide) (pv 0) (pa_cons (pv 1) pa_nil)))
      (pss_cons (ps_expr (pe_mt (m_Cast_check_letters T) hr (by decide) (pv 0) (pa_cons (pv 2) pa_nil)))
      (pss_cons (ps_set (i := 3) scSwapClash.nd rfl (Or.inl rfl) (pe_mt0 (m_Cast_letters T) hr (by decide) (pv 0)))
      (pss_cons (ps_for PassesOwn.never rfl (pi_list (pv 3)) (pg_name (i := 4) scSwapClash.nd rfl (Or.inl rfl))
        (pss_one (ps_if (pt_cmpR op_ne (pe_m1 PySem.F.slot_str_count PySem.F.type_str_count mt_count (pv 1) (pv 4)) (pe_m1 PySem.F.slot_str_count PySem.F.type_str_count mt_count (pv 2) (pv 4)) (nomark _))
          (pss_one (ps_ret (pe_tup (pa_cons pe_str (pa_cons (pv 4) pa_nil)))))
          pss_nil)))
      (pss_cons (ps_for PassesOwn.never rfl (pi_list (pv 3)) (pg_name (i := 5) scSwapClash.nd rfl (Or.inl rfl))
        (pss_one (ps_for PassesOwn.never rfl (pi_list (pv 3)) (pg_name (i := 6) scSwapClash.nd rfl (Or.inl rfl))
          (pss_one (ps_if (PW.pt (pw_and (pt_cmpR op_lt_str (pv 5) (pv 6) (nomark _)) (pw_and (pt_cmpR op_ne (pe_c (c_only T) hr (by decide) rfl (pa_cons (pv 1) (pa_cons (pe_op op_add_str (pv 5) (pv 6)) pa_nil))) (pe_c (c_only T) hr (by decide) rfl (pa_cons (pv 2) (pa_cons (pe_op op_add_str (pv 5) (pv 6)) pa_nil))) (nomark _)) (pw_and1 (pt_not (pt_val (pe_c (c_commute Z) hr (by decide) rfl (pa_cons (pv 0) (pa_cons (pv 5) (pa_cons (pv 6) pa_nil))))))))))
            (pss_one (ps_ret (pe_tup (pa_cons pe_str (pa_cons (pe_op op_add_str (pv 5) (pv 6)) pa_nil)))))
            pss_nil)))))
      (pss_one (ps_ret pe_non))))))), ?_⟩
    obtain ⟨dx, r, hx, hd, hr1, ht, fok⟩ := id hC
    refine ⟨_, rfl, x, dx, _, rfl, hx, rfl, _, rfl, x, d, n, tb, F, R, rfl, hC, hR, fun H1 e1 => ?_⟩
    refine ⟨_, rfl, x, dx, _, rfl, e1 _ _ hx, rfl, _, rfl, x, d, n, tb, F, O, rfl, hC.same e1, hO, fun H2 e2' => ?_⟩
    have e2 := e1.trans e2'
    refine ⟨_, rfl, x, dx, _, rfl, e2 _ _ hx, rfl, x, d, n, tb, F, rfl, hC.same e2, fun H3 l e3' hl0 hl3 => ?_⟩
    have e3 := e2.trans e3'
    have inF : ∀ {c : Nat}, c ∈ lets F → c ∈ F.map (·.1) := fun hc => of_decide_eq_true (List.mem_filter.mp hc).2
    have getL : ∀ {i : Nat} {v : V}, ((lets F).map lV)[i]? = some v → ∃ c, (lets F)[i]? = some c ∧ v = lV c := fun {i v} h => by
      rw [List.getElem?_map] at h
      cases e : (lets F)[i]? with
      | none => rw [e] at h; cases h
      | some c => rw [e] at h; exact ⟨c, rfl, (Option.some.inj h).symm⟩
    refine ⟨_, rfl, l, rfl, ⟨_, SqL.of hl3⟩, for_it (walk_list (xs := (lets F).map lV)) (fun i σ H' => Same H H' ∧ H' l = some (.lst ((lets F).map lV)) ∧ ((lets F).take i).any (fun c => decide (R.count c ≠ O.count c)) = false ∧ ∃ z, σ = [some (.ref x), some (.str (SX.S R)), some (.str (SX.S O)), some (.ref l), z, none, none])
      ⟨e3, hl3, by simp, _, rfl⟩ (fun i σ H' _ h => SqL.of h.2.1) ?_ ?_⟩
    · rintro i v σ H4 H5 hi ⟨e4, hl4, hany, z, rfl⟩ ⟨rfl, hv⟩
      obtain ⟨c, hc, rfl⟩ := getL hv
      have hcm := List.mem_of_getElem? hc
      refine ⟨_, rfl, ⟨_, rfl⟩, _, rfl, _, _, rfl, rfl, _, rfl, ⟨_, rfl⟩, _, rfl, _, _, rfl, rfl, rfl, _, rfl, ?_⟩
      have c1 : Txt.count (SX.S R) ⟨#[c]⟩ = ((R.count c : Nat) : Int) := count_one R c
      have c2 : Txt.count (SX.S O) ⟨#[c]⟩ = ((O.count c : Nat) : Int) := count_one O c
      rw [c1, c2]
      by_cases hcc : R.count c = O.count c
      · refine iteNS (by rw [hcc]) ⟨e4, hl4, ?_, _, rfl⟩
        rw [List.take_add_one, hc, List.any_append, hany]
        simp [hcc]
      · rw [decide_eq_false (show ¬ V.int ((R.count c : Nat) : Int) = V.int ((O.count c : Nat) : Int) by intro z; injection z with z; omega)]
        refine iteT ⟨_, rfl, by show 2 ≤ sizeLine; decide, fun t ht1 => ks ?_ _ t _ (Same.upd e4 ht1) upd_same⟩
        unfold Mu.clashB
        rw [Bool.or_eq_true]
        exact .inl (List.any_eq_true.mpr ⟨c, hcm, decide_eq_true hcc⟩)
    · rintro σ H4 ⟨e4, hl4, hany, z, rfl⟩
      rw [List.length_map, List.take_length] at hany
      refine ⟨_, rfl, l, rfl, ⟨_, SqL.of hl4⟩, for_it (walk_list (xs := (lets F).map lV)) (fun i σ H' => Same H H' ∧ H' l = some (.lst ((lets F).map lV)) ∧ ((lets F).take i).any (fun a => (lets F).any fun b => decide (a < b) && (decide (Mu.filt a b R ≠ Mu.filt a b O) && !(Mu.comm tb a b))) = false ∧ ∃ z z5 z6, σ = [some (.ref x), some (.str (SX.S R)), some (.str (SX.S O)), some (.ref l), z, z5, z6])
        ⟨e4, hl4, by simp, _, _, _, rfl⟩ (fun i σ H' _ h => SqL.of h.2.1) ?_ ?_⟩
      · rintro i v σ H5 H6 hi ⟨e5, hl5, hany2, z, z5, z6, rfl⟩ ⟨rfl, hv⟩
        obtain ⟨a, ha, rfl⟩ := getL hv
        have ham := List.mem_of_getElem? ha
        refine ⟨_, rfl, l, rfl, ⟨_, SqL.of hl5⟩, for_it (walk_list (xs := (lets F).map lV)) (fun j σ H' => Same H H' ∧ H' l = some (.lst ((lets F).map lV)) ∧ ((lets F).take j).any (fun b => decide (a < b) && (decide (Mu.filt a b R ≠ Mu.filt a b O) && !(Mu.comm tb a b))) = false ∧ ∃ z z6, σ = [some (.ref x), some (.str (SX.S R)), some (.str (SX.S O)), some (.ref l), z, some (lV a), z6])
          ⟨e5, hl5, by simp, _, _, rfl⟩ (fun i σ H' _ h => SqL.of h.2.1) ?_ ?_⟩
        · rintro j v σ H7 H8 hj ⟨e7, hl7, hany3, z, z6, rfl⟩ ⟨rfl, hv⟩
          obtain ⟨b, hb, rfl⟩ := getL hv
          have hbm := List.mem_of_getElem? hb
          have next : ∀ {H9 : Hp} {z6 : Option V}, Same H8 H9 → (decide (a < b) && (decide (Mu.filt a b R ≠ Mu.filt a b O) && !(Mu.comm tb a b))) = false → Same H H9 ∧ H9 l = some (.lst ((lets F).map lV)) ∧ ((lets F).take (j + 1)).any (fun b => decide (a < b) && (decide (Mu.filt a b R ≠ Mu.filt a b O) && !(Mu.comm tb a b))) = false ∧ ∃ z z6', [some (V.ref x), some (.str (SX.S R)), some (.str (SX.S O)), some (.ref l), z, some (lV a), z6] = [some (V.ref x), some (.str (SX.S R)), some (.str (SX.S O)), some (.ref l), z, some (lV a), z6'] := fun {H9 z6} e9 hf => by
            refine ⟨e7.trans e9, e9 _ _ hl7, ?_, z, z6, rfl⟩
            rw [List.take_add_one, hb, List.any_append, hany3]
            simp only [Option.toList_some, List.any_cons, List.any_nil, Bool.or_false, Bool.false_or]
            exact hf
          refine ⟨_, rfl, _, rfl, _, _, rfl, rfl, _, rfl, ?_⟩
          rw [show decide ((⟨#[a]⟩ : Str).cps.toList < (⟨#[b]⟩ : Str).cps.toList) = decide (a < b) from lt_one a b]
          have ecat : ((⟨#[a]⟩ : Str) ++ ⟨#[b]⟩) = SX.S [a, b] := SX.S_cat [a] [b]
          have l11 : (⟨#[a]⟩ : Str).length + (⟨#[b]⟩ : Str).length ≤ sizeLine := by show 2 ≤ sizeLine; decide
          cases hab : decide (a < b) with
          | false => (refine iteF (iteF ?_); exact ⟨(next (z6 := some (lV b)) (Same.refl H8) (by rw [hab]; rfl)).1, (next (z6 := some (lV b)) (Same.refl H8) (by rw [hab]; rfl)).2.1, (next (z6 := some (lV b)) (Same.refl H8) (by rw [hab]; rfl)).2.2.1, z, some (lV b), rfl⟩)
          | true =>
            refine iteT ⟨_, rfl, _, rfl, _, rfl, _, _, rfl, rfl, l11, R, a, b, by rw [ecat]; rfl, by omega, fun H9 e9 => ?_⟩
            refine ⟨_, rfl, _, rfl, _, rfl, _, _, rfl, rfl, l11, O, a, b, by rw [ecat]; rfl, by omega, fun H10 e10 => ?_⟩
            have e8 := e9.trans e10
            refine ⟨rfl, _, rfl, ?_⟩
            by_cases hfe : Mu.filt a b R = Mu.filt a b O
            · rw [decide_eq_true (show V.str (SX.S (Mu.filt a b R)) = V.str (SX.S (Mu.filt a b O)) by rw [hfe])]
              (refine iteF (iteF ?_); exact ⟨(next (z6 := some (lV b)) e8 (by rw [hfe]; simp)).1, (next (z6 := some (lV b)) e8 (by rw [hfe]; simp)).2.1, (next (z6 := some (lV b)) e8 (by rw [hfe]; simp)).2.2.1, z, some (lV b), rfl⟩)
            · rw [decide_eq_false (show ¬ V.str (SX.S (Mu.filt a b R)) = V.str (SX.S (Mu.filt a b O)) by
                intro z
                injection z with z
                exact hfe (SX.S_inj z))]
              refine iteT ⟨_, rfl, _, rfl, _, rfl, x, d, n, tb, F, a, b, rfl, hC.same (e7.trans e8), inF ham, inF hbm, fun H11 e11 => ⟨_, rfl, ?_⟩⟩
              cases hcm : Mu.comm tb a b with
              | true => (refine iteF ?_; exact ⟨(next (z6 := some (lV b)) (e8.trans e11) (by rw [hcm]; simp)).1, (next (z6 := some (lV b)) (e8.trans e11) (by rw [hcm]; simp)).2.1, (next (z6 := some (lV b)) (e8.trans e11) (by rw [hcm]; simp)).2.2.1, z, some (lV b), rfl⟩)
              | false =>
                refine iteT ⟨_, rfl, _, rfl, _, _, rfl, rfl, l11, by show 2 ≤ sizeLine; decide, fun t ht1 => ks ?_ _ t _ (Same.upd (e7.trans (e8.trans e11)) ht1) upd_same⟩
                unfold Mu.clashB
                rw [Bool.or_eq_true]
                refine .inr (List.any_eq_true.mpr ⟨a, ham, List.any_eq_true.mpr ⟨b, hbm, ?_⟩⟩)
                rw [hab, hcm, decide_eq_true hfe]
                rfl
        · rintro σ H7 ⟨e7, hl7, hany3, z, z6, rfl⟩
          rw [List.length_map, List.take_length] at hany3
          refine ⟨e7, hl7, ?_, _, _, _, rfl⟩
          rw [List.take_add_one, ha, List.any_append, hany2]
          simp only [Option.toList_some, List.any_cons, List.any_nil, Bool.or_false, Bool.false_or]
          exact hany3
      · rintro σ H5 ⟨e5, hl5, hany2, z, z5, z6, rfl⟩
        rw [List.length_map, List.take_length] at hany2
        refine kn ?_ H5 e5
        unfold Mu.clashB
        rw [Bool.or_eq_false_iff]
        exact ⟨hany, hany2⟩
end
end Mz
namespace Mz
open PySem PySem.Spec PyProof.Rows L2 He C8
/-! ### the box of draws -/
def boxO (L : Addr) (i a b : Int) : HO := .lst [.ref L, .int i, .int a, .int b]
theorem odd_box {L : Addr} {i a b : Int} : Odd (boxO L i a b) := by
  refine ⟨fun ls z => ?_, fun A z => ?_, fun A z => ?_⟩
  · unfold boxO at z
    injection z with z
    match ls, z with
    | [], z => cases z
    | [_], z => cases z
    | _ :: x :: _, z =>
      simp at z
  · unfold boxO nlst at z
    injection z with z
    match A, z with
    | [], z => cases z
    | x :: _, z => simp at z
  · unfold boxO ntup at z
    cases z
theorem box_ne {L : Addr} {i a b : Int} {ns : List Int} : HO.lst (ns.map V.int) ≠ boxO L i a b := fun z => by
  unfold boxO at z
  injection z with z
  match ns, z with
  | [], z => cases z
  | x :: _, z => simp at z
def BoxAt (H : Hp) (B L : Addr) : Prop := ∃ (ns : List Int) (i a b : Int), H B = some (boxO L i a b) ∧ H L = some (.lst (ns.map V.int)) ∧ 0 ≤ i ∧ 0 ≤ b ∧ b < 2147483647
theorem BoxAt.same {H H' : Hp} {B L : Addr} (h : BoxAt H B L) (e : Same H H') : BoxAt H' B L := by
  obtain ⟨ns, i, a, b, h1, h2, h3⟩ := h
  exact ⟨ns, i, a, b, e _ _ h1, e _ _ h2, h3⟩
theorem BoxAt.upd {H : Hp} {B L p : Addr} {o : HO} (h : BoxAt H B L) (hB : p ≠ B) (hL : p ≠ L) : BoxAt (L2.upd H p o) B L := by
  obtain ⟨ns, i, a, b, h1, h2, h3⟩ := h
  exact ⟨ns, i, a, b, by rw [upd_ne hB.symm]; exact h1, by rw [upd_ne hL.symm]; exact h2, h3⟩
theorem BoxAt.new {H : Hp} {B L p : Addr} (h : BoxAt H B L) (hp : H p = none) : p ≠ B ∧ p ≠ L := by
  obtain ⟨ns, i, a, b, h1, h2, h3⟩ := h
  exact ⟨(ne_of_none h1 hp).symm, (ne_of_none h2 hp).symm⟩
theorem BoxAt.odd {H : Hp} {B L : Addr} (h : BoxAt H B L) : ∃ o, H B = some o ∧ Odd o := by
  obtain ⟨ns, i, a, b, h1, h2, h3⟩ := h
  exact ⟨_, h1, odd_box⟩
theorem SameX.updn {x p : Addr} {H H' : Hp} {o : HO} (e : SameX x H H') (h : H p = none) : SameX x H (L2.upd H' p o) := fun b u n q => by
  rw [upd_ne (ne_of_none q h)]
  exact e b u n q
def spLawTake : Sp := fun vs H Q _ => ∃ (B L : Addr) (m : Nat), vs = [.ref B, nV m] ∧ BoxAt H B L ∧ 1 ≤ m ∧ m ≤ 1000 ∧ ∀ H' r, SameX B H H' → BoxAt H' B L → r < m → Q (nV r) H'
theorem nat_of {z : Int} {m : Nat} (h : 0 ≤ z) (h2 : z < m) : ∃ r : Nat, z = ((r : Nat) : Int) ∧ r < m := ⟨z.toNat, by omega, by omega⟩
theorem put_box {H : Hp} {B L : Addr} {ns : List Int} {i a b i' a' b' : Int} (hB : H B = some (boxO L i a b)) (hL : H L = some (.lst (ns.map V.int))) (h1 : 0 ≤ i') (h2 : 0 ≤ b') (h3 : b' < 2147483647) : BoxAt (L2.upd H B (boxO L i' a' b')) B L :=
  ⟨ns, i', a', b', upd_same, by rw [upd_ne (ne_of hL hB box_ne)]; exact hL, h1, h2, h3⟩
section
variable {P : Program} {w : World} {K : PySem.W.Frag} {mg : Str → Option Value} {base : Heap}
theorem scLawTake : FnScope ["_law_box_here", "_law_many", "_law_digit", "_law_cell"] ["_law_box_here", "_law_many"] (defScope sLawTake) := fnScope_by (by decide +kernel)
theorem c__law_take (T : Tx K mg) : Cal P w K mg base 1 "_law_take" spLawTake [] := by
  refine calD T.d__law_take T.g__law_take scLawTake (fun _ _ _ _ _ _ us hl => match us, hl with | [_, _], _ => rfl) (fun vs H Q E h => ?_) (fun cdv A outer s H vs Q E hr h => ?_)
  · obtain ⟨_, _, _, rfl, _⟩ := h
    rfl
  · obtain ⟨B, L, m, rfl, ⟨ns, i, a, b, hB, hL, hi, hb, hb2⟩, m1, m2, k⟩ := h
    have hu := hu_of hr
    refine ⟨_, (pss_cons (ps_if (pt_cmpR op_gt (pe_ix (ix_listK (K := K) rfl) (pv 0) pe_int (fun _ _ => rfl)) pe_int (nomark _))
        (pss_cons (ps_set (i := 2) scLawTake.nd rfl (Or.inl rfl) (pe_op op_mod (pe_callTy call_int1 (by rfl) T.z_int (by decide +kernel) (pa_cons (pe_ix (ix_listK (K := K) rfl) (pv 0) pe_int (fun _ _ => rfl)) pa_nil)) (pv 1)))
        (pss_cons (ps_asg (pe_op op_fdiv (pe_ix (ix_listK (K := K) rfl) (pv 0) pe_int (fun _ _ => rfl)) (pv 1)) (pg_sub (pv 0) pe_int set_list))
        (pss_one (ps_ret (pv 2)))))
        pss_nil)
      (pss_cons (ps_set (i := 3) scLawTake.nd rfl (Or.inl rfl) pe_int)
      (pss_cut (ps_if (pt_cmpR op_lt (pe_ix (ix_listK (K := K) rfl) (pv 0) pe_int (fun _ _ => rfl)) (pe_callB (call_lenK (K := K) rfl) (by rfl) T.z_len PySem.boot_len (pa_cons (pe_ix (ix_listK (K := K) rfl) (pv 0) pe_int (fun _ _ => rfl)) pa_nil)) (nomark _))
        (pss_cons (ps_set (i := 3) scLawTake.nd rfl (Or.inl rfl) (pe_ix (ix_listK (K := K) rfl) (pe_ix (ix_listK (K := K) rfl) (pv 0) pe_int (fun _ _ => rfl)) (pe_ix (ix_listK (K := K) rfl) (pv 0) pe_int (fun _ _ => rfl)) (fun _ _ => rfl)))
        (pss_one (ps_asg (pe_op op_add (pe_ix (ix_listK (K := K) rfl) (pv 0) pe_int (fun _ _ => rfl)) pe_int) (pg_sub (pv 0) pe_int set_list))))
        pss_nil)
      (pss_cons (ps_if (pt_cmpR op_ge (pv 3) (pe_op op_pow pe_int pe_int) (nomark _))
        (pss_cons (ps_asg (pe_op op_fdiv (pv 3) (pv 1)) (pg_sub (pv 0) pe_int set_list))
        (pss_one (ps_ret (pe_op op_mod (pe_callTy call_int1 (by rfl) T.z_int (by decide +kernel) (pa_cons (pv 3) pa_nil)) (pv 1)))))
        pss_nil)
      (pss_cons (ps_asg (pe_op op_mod (pe_callTy call_int1 (by rfl) T.z_int (by decide +kernel) (pa_cons (pe_op op_add (pe_op op_mul (pe_ix (ix_listK (K := K) rfl) (pv 0) pe_int (fun _ _ => rfl)) pe_int) (pv 3)) pa_nil)) pe_int) (pg_sub (pv 0) pe_int set_list))
      (pss_one (ps_ret (pe_op op_mod (pe_callTy call_int1 (by rfl) T.z_int (by decide +kernel) (pa_cons (pe_op op_fdiv (pe_op op_mod (pe_callTy call_int1 (by rfl) T.z_int (by decide +kernel) (pa_cons (pe_op op_mul (pe_ix (ix_listK (K := K) rfl) (pv 0) pe_int (fun _ _ => rfl)) pe_int) pa_nil)) pe_int) pe_int) pa_nil)) (pv 1))))))))), ?_⟩
    have hm : (0 : Int) < ((m : Nat) : Int) := by omega
    have hm2 : ((m : Nat) : Int) < 1073741824 := by omega
    have fin : ∀ (z : Int) (H' : Hp), SameX B H H' → BoxAt H' B L → Q (.int (z % ((m : Nat) : Int))) H' := fun z H' e bx => by
      obtain ⟨r, hr1, hr2⟩ := nat_of (Int.emod_nonneg z (by omega)) (Int.emod_lt_of_pos z hm)
      rw [hr1]
      exact k H' r e bx hr2
    have ub : ∀ {o : HO}, SameX B H (L2.upd H B o) := SameX.upd SameX.refl
    refine ⟨_, rfl, B, _, _, _, rfl, rfl, SqL.of hB, rfl, _, _, rfl, rfl, _, rfl, ?_⟩
    cases hpos : decide ((0 : Int) < a) with
    | true =>
      refine iteT ⟨_, rfl, B, _, _, _, rfl, rfl, SqL.of hB, rfl, .inl ⟨_, rfl, _, rfl, _, _, rfl, rfl, hm, ?_⟩⟩
      refine ⟨_, rfl, B, _, _, _, rfl, rfl, SqL.of hB, rfl, _, rfl, _, _, rfl, rfl, ⟨hm, hm2⟩, _, rfl, B, _, _, 2, rfl, rfl, hB, rfl, _, rfl, ?_⟩
      exact fin a _ ub (put_box (i' := i) (a' := a / ((m : Nat) : Int)) (b' := b) hB hL hi hb hb2)
    | false =>
      refine iteF ⟨fun σ H' => ∃ (c i' : Int), 0 ≤ i' ∧ σ = [some (.ref B), some (nV m), none, some (.int c)] ∧ SameX B H H' ∧ H' B = some (boxO L i' a b), ?_, ?_⟩
      · refine ⟨_, rfl, B, _, _, _, rfl, rfl, SqL.of hB, rfl, _, rfl, B, _, _, _, rfl, rfl, SqL.of hB, rfl, L, _, rfl, .inl (SqL.of hL), _, _, rfl, rfl, _, rfl, ?_⟩
        rw [List.length_map]
        cases hlt : decide (i < ((ns.length : Nat) : Int)) with
        | true =>
          have hlt' := of_decide_eq_true hlt
          obtain ⟨j, hj1, hj2⟩ := nat_of hi hlt'
          refine iteT ⟨_, rfl, B, _, _, _, rfl, rfl, SqL.of hB, rfl, _, rfl, B, _, _, _, rfl, rfl, SqL.of hB, rfl, L, _, _, .int ns[j], rfl, rfl, SqL.of hL, ?_, ?_⟩
          · rw [hj1]
            exact atI_nat (by simp [hj2])
          · refine ⟨_, rfl, B, _, _, _, rfl, rfl, SqL.of hB, rfl, _, _, rfl, rfl, _, rfl, B, _, _, 1, rfl, rfl, hB, rfl, ns[j], i + 1, by omega, rfl, SameX.upd SameX.refl, upd_same⟩
        | false => exact iteF ⟨0, i, hi, rfl, SameX.refl, hB⟩
      · rintro σ H1 ⟨c, i', hi', rfl, e1, hB1⟩
        have hL1 : H1 L = some (.lst (ns.map V.int)) := e1 _ _ (ne_of hL hB box_ne) hL
        have ub1 : ∀ {o : HO}, SameX B H (L2.upd H1 B o) := SameX.upd e1
        refine ⟨_, rfl, _, _, rfl, rfl, ⟨by decide, by decide, by decide⟩, _, _, rfl, rfl, _, rfl, ?_⟩
        cases hbig : decide ((10 : Int) ^ (18 : Int).toNat ≤ c) with
        | true =>
          refine iteT ⟨_, rfl, _, rfl, _, _, rfl, rfl, ⟨hm, hm2⟩, _, rfl, B, _, _, 2, rfl, rfl, hB1, rfl, ?_⟩
          refine ⟨_, rfl, .inl ⟨_, rfl, _, rfl, _, _, rfl, rfl, hm, ?_⟩⟩
          exact fin c _ ub1 (put_box (i' := i') (a' := c / ((m : Nat) : Int)) (b' := b) hB1 hL1 hi' hb hb2)
        | false =>
          refine iteF ⟨_, rfl, B, _, _, _, rfl, rfl, SqL.of hB1, rfl, _, _, rfl, rfl, .inl ⟨by omega, by omega⟩, _, rfl, _, _, rfl, rfl, .inl ⟨_, rfl, _, _, rfl, rfl, (show (0 : Int) < 2147483647 by decide), _, rfl, B, _, _, 3, rfl, rfl, hB1, rfl, ?_⟩⟩
          have z1 := Int.emod_nonneg (b * 48271 + c) (show (2147483647 : Int) ≠ 0 by decide)
          have z2 := Int.emod_lt_of_pos (b * 48271 + c) (show (0 : Int) < 2147483647 by decide)
          have hB2 := put_box (i' := i') (a' := a) (b' := (b * 48271 + c) % 2147483647) hB1 hL1 hi' z1 z2
          refine ⟨_, rfl, B, [.ref L, .int i', .int a, .int ((b * 48271 + c) % 2147483647)], _, _, rfl, rfl, SqL.of upd_same, rfl, _, _, rfl, rfl, .inl ⟨by omega, by omega⟩, .inl ⟨_, rfl, _, _, rfl, rfl, (show (0 : Int) < 2147483629 by decide), _, _, rfl, rfl, ⟨(show (0 : Int) < 16 by decide), (show (16 : Int) < 1073741824 by decide)⟩, .inl ⟨_, rfl, _, rfl, _, _, rfl, rfl, hm, ?_⟩⟩⟩
          exact fin _ _ ub1 hB2
end
end Mz
namespace Mz
open PySem PySem.Spec PyProof.Rows L2 He C8
def spLawBox (K : PySem.W.Frag) : Sp := fun vs H Q _ => ∃ (l : Addr) (ns : List Int), vs = [.ref l] ∧ SqL K H l (ns.map V.int) ∧ ∀ H' B L, Same H H' → H B = none → H L = none → BoxAt H' B L → Q (.ref B) H'
/-- a new object at l, the box drawn from -/
def RB (B L : Addr) (H : Hp) (Pr : Hp → Addr → Prop) (Q : VK) : Prop := ∀ H' l, SameX B H H' → BoxAt H' B L → H l = none → Pr H' l → Q (.ref l) H'
def spLawLetters : Sp := fun vs H Q _ => ∃ (B L : Addr) (m : Nat), vs = [.ref B, nV m] ∧ BoxAt H B L ∧ m ≤ 26 ∧ RB B L H (fun H' l => ∃ fs : List Nat, H' l = some (.lst (fs.map lV)) ∧ fs.length = m ∧ fs.Nodup ∧ ∀ c ∈ fs, c ∈ abc) Q
def spLawWords : Sp := fun vs H Q _ => ∃ (B L : Addr) (n : Nat), vs = [.ref B, nV n, nV 1] ∧ BoxAt H B L ∧ 1 ≤ n ∧ n ≤ 3 ∧ RB B L H (fun H' l => ∃ m, 1 ≤ m ∧ m < 2 ^ n ∧ H' l = some (nlst (Mu.bitsL m))) Q
/-- a list of words -/
def OutsAt (n : Nat) (H : Hp) (l : Addr) : Prop := ∃ A : List Nat, H l = some (nlst A) ∧ A ≠ [] ∧ A.length ≤ 3 ∧ ∀ a ∈ A, a < n
def spLawOuts : Sp := fun vs H Q _ => ∃ (B L : Addr) (n : Nat), vs = [.ref B, nV n] ∧ BoxAt H B L ∧ 1 ≤ n ∧ n ≤ 3 ∧ RB B L H (OutsAt n) Q
def spLawSameRows : Sp := fun vs H Q _ => ∃ (n : Nat), vs = [nV n] ∧ n ≤ 3 ∧ ∀ H' l, Same H H' → H l = none → RowsAt H' l ((Mu.idm n).map Mu.bitsL) → Q (.ref l) H'
theorem bits_ne : ∀ m : _root_.Fin 8, 1 ≤ m.1 → Mu.bitsL m.1 ≠ [] := by decide +kernel
section
variable {P : Program} {w : World} {K : PySem.W.Frag} {mg : Str → Option Value} {base : Heap}
theorem scLawBox : FnScope ["_law_script", "_law_cell"] ["_law_script"] (defScope sLawBox) := fnScope_by (by decide +kernel)
theorem c__law_box (T : Tx K mg) : Cal P w K mg base 1 "_law_box" (spLawBox K) [] := by
  refine calD T.d__law_box T.g__law_box scLawBox (fun _ _ _ _ _ _ us hl => match us, hl with | [_], _ => rfl) (fun vs H Q E h => ?_) (fun cdv A outer s H vs Q E hr h => ?_)
  · obtain ⟨_, _, rfl, _⟩ := h
    rfl
  · obtain ⟨l, ns, rfl, hl, k⟩ := h
    have hu := hu_of hr
    refine ⟨_, (pss_one (ps_ret (pe_lst (pa_cons (pe_lc (own := [("_law_cell", 1)]) (g := gName 1) (tt := tYes)  (rfl) scLawBox.nd (pi_list (pe_slice sl_list (pv 0) po_none (po_some pe_int))) (blkOk_by (own := [("_law_cell", 1)]) (N := ["_law_script", "_law_cell"]) (sc := defScope sLawBox) (by decide +kernel)) (fun _ _ _ _ _ => pg_name (i := 1) scLawBox.nd rfl (Or.inl rfl)) (fun _ _ _ _ _ => pts_nil) (fun _ _ _ _ _ => (pe_callB call_abs (by rfl) T.z_abs (by decide +kernel) (pa_cons (pe_callTy call_int1 (by rfl) T.z_int (by decide +kernel) (pa_cons (pv 1) pa_nil)) pa_nil)))) (pa_cons pe_int (pa_cons pe_int (pa_cons pe_int pa_nil))))))), ?_⟩
    have hcut : cutV (ns.map V.int) none (some 63) = ((ns.drop (HT.sIx (ns.map V.int).length 0 none)).take (HT.sIx (ns.map V.int).length (ns.map V.int).length (some 63) - HT.sIx (ns.map V.int).length 0 none)).map V.int := by
      unfold cutV
      rw [← List.map_drop, ← List.map_take]
    have h63 : (cutV (ns.map V.int) none (some 63)).length ≤ 63 := by
      unfold cutV
      rw [List.length_take]
      have h1 : HT.sIx (ns.map V.int).length (ns.map V.int).length (some 63) ≤ 63 := by
        show (if (63 : Int) < 0 then ((63 : Int) + (((ns.map V.int).length : Nat) : Int)).toNat else min (63 : Int).toNat (ns.map V.int).length) ≤ 63
        rw [if_neg (by decide)]
        exact Nat.min_le_left _ _
      omega
    refine ⟨_, rfl, _, rfl, l, _, rfl, hl, fun p hp => ⟨p, rfl, ⟨_, SqL.of upd_same⟩, ?_⟩⟩
    rw [hcut] at h63 ⊢
    generalize ((ns.drop (HT.sIx (ns.map V.int).length 0 none)).take (HT.sIx (ns.map V.int).length (ns.map V.int).length (some 63) - HT.sIx (ns.map V.int).length 0 none)) = ms at h63 ⊢
    intro D hD
    rw [List.length_map] at h63
    have eP : Same H (L2.upd H p (.lst (ms.map V.int))) := Same.upd (Same.refl _) hp
    refine lc_keep (walk_list (xs := ms.map V.int)) hD (fun i _ acc => ∃ as : List Int, acc = as.map V.int ∧ as.length = i) ⟨[], rfl, rfl⟩ (fun H' e => SqL.of (e _ _ upd_same)) ?_ ?_
    · rintro i x H1 H2 acc hi e hD1 ⟨as, rfl, hal⟩ ⟨rfl, hx⟩
      rw [List.length_map] at hi
      rw [List.getElem?_map] at hx
      cases hm : ms[i]? with
      | none => rw [hm] at hx; cases hx
      | some z =>
        rw [hm] at hx
        cases hx
        refine ⟨rfl, _, rfl, .inl ⟨_, rfl, _, rfl, PvK.more hD e hD1 ?_ ⟨as ++ [if z < 0 then -z else z], by simp, by simp [hal]⟩⟩⟩
        rw [List.length_map]
        omega
    · rintro H' acc e hD' ⟨as, rfl, hal⟩
      refine ⟨by show 4 ≤ sizeLine; decide, fun B hB => ?_⟩
      have eD := eP.trans e
      refine k _ B D (Same.upd eD hB) (eD.free hB) (eP.free hD) ⟨as, 0, 0, 0, upd_same, ?_, by decide, by decide, by decide⟩
      rw [upd_ne (ne_of_none hD' hB)]
      exact hD'
theorem scLawSameRows : FnScope ["_law_n", "_law_word"] ["_law_n"] (defScope sLawSameRows) := fnScope_by (by decide +kernel)
theorem c__law_same_rows (T : Tx K mg) : Cal P w K mg base 1 "_law_same_rows" spLawSameRows [] := by
  refine calD T.d__law_same_rows T.g__law_same_rows scLawSameRows (fun _ _ _ _ _ _ us hl => match us, hl with | [_], _ => rfl) (fun vs H Q E h => ?_) (fun cdv A outer s H vs Q E hr h => ?_)
  · obtain ⟨_, rfl, _⟩ := h
    rfl
  · obtain ⟨n, rfl, hn, k⟩ := h
    have hu := hu_of hr
    refine ⟨_, (pss_one (ps_ret (pe_lc (own := [("_law_word", 1)]) (g := gName 1) (tt := tYes)  (rfl) scLawSameRows.nd (pi_range1 rfl T.z_range (pa_cons (pv 0) pa_nil)) (blkOk_by (own := [("_law_word", 1)]) (N := ["_law_n", "_law_word"]) (sc := defScope sLawSameRows) (by decide +kernel)) (fun _ _ _ _ _ => pg_name (i := 1) scLawSameRows.nd rfl (Or.inl rfl)) (fun _ _ _ _ _ => pts_nil) (fun _ _ _ _ _ => (pe_lst (pa_cons (pv 1) pa_nil)))))), ?_⟩
    refine ⟨_, rfl, _, rfl, by omega, by omega, fun D hD => ?_⟩
    refine lc_keep (walk_range (n := n)) hD (fun i H' acc => ∃ ls : List Addr, acc = ls.map V.ref ∧ Pts H' ls (((List.range i).map fun k => [k]).map nlst) ∧ D ∉ ls) ⟨[], rfl, Pts.nil, by simp⟩ (fun _ _ => trivial) ?_ ?_
    · rintro i x H1 H2 acc hi e hD1 ⟨ls, rfl, hp, hDl⟩ ⟨rfl, rfl⟩
      have hll : ls.length = i := by
        have := hp.1
        simp at this
        omega
      refine ⟨rfl, _, rfl, by show 1 ≤ sizeLine; decide, fun b hb => PvK.more (acc := ls.map V.ref) hD (Same.upd e hb) ?_ ?_ ⟨ls ++ [b], by simp, ?_, ?_⟩⟩
      · rw [upd_ne (ne_of_none hD1 hb)]
        exact hD1
      · rw [List.length_map, hll]
        omega
      · rw [List.range_succ]
        simp only [List.map_append, List.map_cons, List.map_nil]
        refine Pts.upd ((hp.same (Same.upd (Same.refl _) hb)).snoc ?_) ?_
        · rw [upd_same]
          show some (HO.lst [V.int (0 + (i : Nat))]) = some (HO.lst [V.int (i : Nat)])
          rw [show (0 : Int) + (i : Nat) = ((i : Nat) : Int) by omega]
        · intro z
          rcases List.mem_append.mp z with z | z
          · exact hDl z
          · have : D = b := by simpa using z
            rw [← this, hD1] at hb
            cases hb
      · intro z
        rcases List.mem_append.mp z with z | z
        · exact hDl z
        · have : D = b := by simpa using z
          rw [← this, hD1] at hb
          cases hb
    · rintro H' acc e hD' ⟨ls, rfl, hp, hDl⟩
      rw [← Mu.idm_bits hn] at hp
      exact k _ D e hD ⟨ls, hD', hp⟩
theorem scLawLetters : FnScope ["_law_box_here", "_law_many", "_law_pool", "_law_found", "_law_k", "_law_at"] ["_law_box_here", "_law_many"] (defScope sLawLetters) := fnScope_by (by decide +kernel)
theorem c__law_letters (T : Tx K mg) : Cal P w K mg base 2 "_law_letters" spLawLetters [] := by
  refine calD T.d__law_letters T.g__law_letters scLawLetters (fun _ _ _ _ _ _ us hl => match us, hl with | [_, _], _ => rfl) (fun vs H Q E h => ?_) (fun cdv A outer s H vs Q E hr h => ?_)
  · obtain ⟨_, _, _, rfl, _⟩ := h
    rfl
  · obtain ⟨B, L, m, rfl, hBx, hm, k⟩ := h
    have hu := hu_of hr
    refine ⟨_, (pss_cons (ps_set (i := 2) scLawLetters.nd rfl (Or.inl rfl) pe_str)
      (pss_cons (ps_set (i := 3) scLawLetters.nd rfl (Or.inl rfl) (pe_lst pa_nil))
      (pss_cons (ps_for PassesOwn.never rfl (pi_range1 rfl T.z_range (pa_cons (pv 1) pa_nil)) (pg_name (i := 4) scLawLetters.nd rfl (Or.inl rfl))
        (pss_cons (ps_set (i := 5) scLawLetters.nd rfl (Or.inl rfl) (pe_c (c__law_take T) hr (by decide) rfl (pa_cons (pv 0) (pa_cons (pe_callB call_len_str (by rfl) T.z_len PySem.boot_len (pa_cons (pv 2) pa_nil)) pa_nil))))
        (pss_cons (ps_expr (pe_bm PySem.F.plainAttrs_list PySem.F.slot_list_append PySem.F.type_list_append mt_append (pv 3) (pa_cons (pe_ix ix_str (pv 2) (pv 5) (fun _ _ => rfl)) pa_nil)))
        (pss_one (ps_set (i := 2) scLawLetters.nd rfl (Or.inl rfl) (pe_op op_add_str (pe_slice C8.sl_txt (pv 2) po_none (po_some (pv 5))) (pe_slice C8.sl_txt (pv 2) (po_some (pe_op op_add (pv 5) pe_int)) po_none)))))))
      (pss_one (ps_ret (pv 3)))))), ?_⟩
    refine ⟨Nat.zero_le _, fun l hl => ?_⟩
    have nl := hBx.new hl
    rw [abc_txt]
    refine ⟨_, rfl, _, rfl, by omega, by omega, ?_⟩
    refine for_it (walk_range (n := m)) (fun i σ H' => ∃ p fs z4 z5, σ = [some (.ref B), some (nV m), some (.str (SX.S p)), some (.ref l), z4, z5] ∧ SameX B H H' ∧ BoxAt H' B L ∧ H' l = some (.lst (fs.map lV)) ∧ fs.length = i ∧ p.length = 26 - i ∧ (fs ++ p).Nodup ∧ ∀ c ∈ fs ++ p, c ∈ abc)
      ⟨abc, [], _, _, rfl, SameX.updn SameX.refl hl, hBx.upd nl.1 nl.2, upd_same, rfl, rfl, abc_nodup, fun c hc => hc⟩ (fun _ _ _ _ _ => trivial) ?_ ?_
    · rintro i v σ H1 H2 hi ⟨p, fs, z4, z5, rfl, e1, b1, l1, hfl, hpl, hnd, habc⟩ ⟨rfl, rfl⟩
      have hp0 : 1 ≤ p.length := by omega
      have szp : (SX.S p).length ≤ sizeLine := sz20 (by omega)
      refine ⟨_, rfl, _, rfl, _, rfl, szp, B, L, p.length, by rw [SX.S_len]; rfl, b1, hp0, by omega, fun H3 r e3 b3 hr1 => ?_⟩
      have l3 : H3 l = some (.lst (fs.map lV)) := e3 _ _ nl.1 l1
      obtain ⟨c, hc⟩ : ∃ c, p[r]? = some c := ⟨p[r], List.getElem?_eq_getElem hr1⟩
      refine ⟨_, rfl, .inl ⟨rfl, _, SqL.of l3⟩, _, rfl, _, rfl, _, _, c, rfl, rfl, szp, atI_nat hc, l, _, _, rfl, rfl, l3, ?_, ?_⟩
      · rw [List.length_map]
        exact small1000 (by omega)
      have hsp : p = p.take r ++ c :: p.drop (r + 1) := by
        rw [← List.getElem?_eq_some_iff.mp hc |>.2, ← List.drop_eq_getElem_cons hr1, List.take_append_drop]
      have w1 : Txt.slice (SX.S p) none (some ((r : Nat) : Int)) = SX.S (p.take r) := by
        rw [SX.slice_to (Int.natCast_nonneg _)]
        rfl
      have w2 : Txt.slice (SX.S p) (some (((r : Nat) : Int) + 1)) none = SX.S (p.drop (r + 1)) := by
        rw [SX.slice_from (by omega)]
        rfl
      refine ⟨_, rfl, _, rfl, _, rfl, _, rfl, szp, ?_⟩
      rw [w1]
      refine ⟨_, rfl, _, rfl, _, _, rfl, rfl, _, rfl, _, rfl, szp, ?_⟩
      rw [w2]
      refine ⟨_, _, rfl, rfl, ?_, ?_⟩
      · rw [SX.S_len, SX.S_len, List.length_take, List.length_drop]
        exact Nat.le_of_lt (small1000 (by omega))
      rw [SX.S_cat]
      have hperm : ((fs ++ [c]) ++ (p.take r ++ p.drop (r + 1))).Perm (fs ++ p) := by
        rw [List.append_assoc]
        refine List.Perm.append_left fs ?_
        conv => rhs; rw [hsp]
        show (c :: (p.take r ++ p.drop (r + 1))).Perm _
        exact List.perm_middle.symm
      refine ⟨p.take r ++ p.drop (r + 1), fs ++ [c], some (.int (0 + (i : Nat))), some (nV r), rfl, SameX.updn (e1.trans e3) hl, b3.upd nl.1 nl.2, ?_, by simp [hfl], ?_, hperm.nodup_iff.mpr hnd, fun x hx => habc x (hperm.mem_iff.mp hx)⟩
      · rw [upd_same, List.map_append]
        rfl
      · rw [List.length_append, List.length_take, List.length_drop]
        omega
    · rintro σ H1 ⟨p, fs, z4, z5, rfl, e1, b1, l1, hfl, hpl, hnd, habc⟩
      exact ⟨_, rfl, k _ l e1 b1 hl ⟨fs, l1, hfl, (List.nodup_append.mp hnd).1, fun c hc => habc c (List.mem_append_left _ hc)⟩⟩
theorem scLawWords : FnScope ["_law_box_here", "_law_n", "_law_least", "_law_mask", "_law_word"] ["_law_box_here", "_law_n", "_law_least"] (defScope sLawWords) := fnScope_by (by decide +kernel)
theorem c__law_words (T : Tx K mg) : Cal P w K mg base 2 "_law_words" spLawWords [] := by
  refine calD T.d__law_words T.g__law_words scLawWords (fun _ _ _ _ _ _ us hl => match us, hl with | [_, _, _], _ => rfl) (fun vs H Q E h => ?_) (fun cdv A outer s H vs Q E hr h => ?_)
  · obtain ⟨_, _, _, rfl, _⟩ := h
    rfl
  · obtain ⟨B, L, n, rfl, hBx, n1, n3, k⟩ := h
    have hu := hu_of hr
    refine ⟨_, (pss_cons (ps_set (i := 3) scLawWords.nd rfl (Or.inr rfl) (pe_op op_add (pv 2) (pe_c (c__law_take T) hr (by decide) rfl (pa_cons (pv 0) (pa_cons (pe_op op_sub (pe_ix (ix_listK (K := K) rfl) (pe_lst (pa_cons pe_int (pa_cons pe_int (pa_cons pe_int (pa_cons pe_int (pa_cons pe_int (pa_cons pe_int (pa_cons pe_int pa_nil)))))))) (pv 1) (fun _ _ => rfl)) (pv 2)) pa_nil)))))
      (pss_one (ps_ret (pe_lc (own := [("_law_word", 4)]) (g := gName 4)  (rfl) scLawWords.nd (pi_range1 rfl T.z_range (pa_cons (pv 1) pa_nil)) (blkOk_by (own := [("_law_word", 4)]) (N := ["_law_box_here", "_law_n", "_law_least", "_law_mask", "_law_word"]) (sc := defScope sLawWords) (by decide +kernel)) (fun _ _ _ _ _ => pg_name (i := 4) scLawWords.nd rfl (Or.inl rfl)) (fun _ _ _ _ _ => (pts_one (pt_cmpR op_eq (pe_op op_mod (pe_callTy call_int1 (by rfl) T.z_int (by decide +kernel) (pa_cons (pe_op op_fdiv (pv 3) (pe_ix (ix_listK (K := K) rfl) (pe_lst (pa_cons pe_int (pa_cons pe_int (pa_cons pe_int (pa_cons pe_int (pa_cons pe_int (pa_cons pe_int pa_nil))))))) (pv 4) (fun _ _ => rfl))) pa_nil)) pe_int) pe_int (nomark _)))) (fun _ _ _ _ _ => (pv 4)))))), ?_⟩
    have hat : atI [V.int 1, V.int 2, V.int 4, V.int 8, V.int 16, V.int 32, V.int 64] ((n : Nat) : Int) = some (nV (2 ^ n)) := by
      rcases (show n = 1 ∨ n = 2 ∨ n = 3 by omega) with h | h | h <;> (subst h; rfl)
    have h2n : 2 ≤ 2 ^ n := by
      rcases (show n = 1 ∨ n = 2 ∨ n = 3 by omega) with h | h | h <;> (subst h; decide)
    have h2n8 : 2 ^ n ≤ 8 := by
      rcases (show n = 1 ∨ n = 2 ∨ n = 3 by omega) with h | h | h <;> (subst h; decide)
    refine ⟨_, rfl, _, rfl, by show 7 ≤ sizeLine; decide, fun q hq => ?_⟩
    have eq0 : Same H (L2.upd H q (.lst [V.int 1, V.int 2, V.int 4, V.int 8, V.int 16, V.int 32, V.int 64])) := Same.upd (Same.refl _) hq
    refine ⟨_, rfl, q, _, _, _, rfl, rfl, SqL.of upd_same, hat, _, rfl, _, _, rfl, rfl, B, L, 2 ^ n - 1, ?_, hBx.same eq0, by omega, by omega, fun H1 r e1 b1 hr1 => ?_⟩
    · show [V.ref B, V.int (((2 ^ n : Nat) : Int) - ((1 : Nat) : Int))] = [V.ref B, V.int (((2 ^ n - 1 : Nat)) : Int)]
      congr 3
      omega
    have E1 : SameX B H H1 := (SameX.of eq0).trans e1
    refine ⟨_, _, rfl, rfl, ?_⟩
    show gName 3 (V.int (((1 : Nat) : Int) + ((r : Nat) : Int))) _ _ _
    rw [show ((1 : Nat) : Int) + ((r : Nat) : Int) = ((1 + r : Nat) : Int) by omega]
    have hM8 : 1 + r < 8 := by omega
    refine ⟨_, rfl, _, rfl, by omega, by omega, fun D hD => ?_⟩
    refine lc_keep (walk_range (n := n)) hD (fun j _ acc => acc = ((List.range j).filter fun o => (1 + r).testBit o).map nV) rfl (fun _ _ => trivial) ?_ ?_
    · rintro j x H2 H3 acc hj e2 hD1 rfl ⟨rfl, rfl⟩
      have hj4 : j < 4 := by omega
      have hat2 : atI [V.int 1, V.int 2, V.int 4, V.int 8, V.int 16, V.int 32] ((0 : Int) + ((j : Nat) : Int)) = some (nV (2 ^ j)) := by
        rcases (show j = 0 ∨ j = 1 ∨ j = 2 by omega) with h | h | h <;> (subst h; rfl)
      have hpj : 2 ^ j ≤ 8 := by
        rcases (show j = 0 ∨ j = 1 ∨ j = 2 by omega) with h | h | h <;> (subst h; decide)
      have hp0 : 0 < 2 ^ j := Nat.pow_pos (by decide)
      have hodd : decide (((1 + r) / 2 ^ j) % 2 = 1) = (1 + r).testBit j := bits_odd ⟨1 + r, hM8⟩ ⟨j, hj4⟩
      have er : (List.range (j + 1)).filter (fun o => (1 + r).testBit o) = (List.range j).filter (fun o => (1 + r).testBit o) ++ (if (1 + r).testBit j = true then [j] else []) := by
        rw [List.range_succ, List.filter_append, List.filter_cons]
        rfl
      refine ⟨rfl, _, rfl, by show 6 ≤ sizeLine; decide, fun q2 hq2 => ?_⟩
      have e3 := Same.upd (o := .lst [V.int 1, V.int 2, V.int 4, V.int 8, V.int 16, V.int 32]) e2 hq2
      have hD3 : (L2.upd H3 q2 (.lst [V.int 1, V.int 2, V.int 4, V.int 8, V.int 16, V.int 32])) D = some (.lst (((List.range j).filter fun o => (1 + r).testBit o).map nV)) := by
        rw [upd_ne (ne_of_none hD1 hq2)]
        exact hD1
      refine ⟨_, rfl, q2, _, _, _, rfl, rfl, SqL.of upd_same, hat2, _, _, rfl, rfl, ⟨by omega, by omega⟩, .inl ⟨_, rfl, _, _, rfl, rfl, (show (0 : Int) < 2 by decide), rfl, _, rfl, ?_⟩⟩
      rw [dec_int]
      have ev : (((1 + r : Nat) : Int) / ((2 ^ j : Nat) : Int)) % 2 = ((((1 + r) / 2 ^ j) % 2 : Nat) : Int) := by
        push_cast
        rfl
      rw [ev]
      cases hb : (1 + r).testBit j with
      | true =>
        rw [hb] at hodd er
        rw [if_pos rfl] at er
        have h1 := of_decide_eq_true hodd
        have h1' : (((((1 + r) / 2 ^ j) % 2 : Nat) : Int) == 1) = true := by rw [h1]; rfl
        rw [h1']
        refine iteT ⟨_, rfl, PvK.more hD e3 hD3 ?_ ?_⟩
        · rw [List.length_map]
          have := List.length_filter_le (fun o => (1 + r).testBit o) (List.range j)
          rw [List.length_range] at this
          omega
        · rw [er, List.map_append]
          congr 2
          show V.int (0 + ((j : Nat) : Int)) = V.int ((j : Nat) : Int)
          congr 1
          omega
      | false =>
        rw [hb] at hodd er
        rw [if_neg Bool.false_ne_true, List.append_nil] at er
        have h1 := of_decide_eq_false hodd
        have h1' : (((((1 + r) / 2 ^ j) % 2 : Nat) : Int) == 1) = false := by
          rw [beq_eq_false_iff_ne]
          omega
        rw [h1']
        refine iteF ⟨_, e3, hD3, ?_⟩
        show _ = List.map nV (List.filter (fun o => (1 + r).testBit o) (List.range (j + 1)))
        rw [er]
    · rintro H' acc e2 hD' rfl
      rw [← Mu.bitsL_range (n := n) n3 (by omega)] at hD'
      have hDn : H D = none := by
        cases z : H D with
        | none => rfl
        | some o =>
          exfalso
          by_cases hDB : D = B
          · obtain ⟨o', ho', _⟩ := b1.odd
            rw [← hDB, hD] at ho'
            cases ho'
          · rw [E1 D o hDB z] at hD
            cases hD
      exact k _ D (E1.trans (SameX.of e2)) (b1.same e2) hDn ⟨1 + r, by omega, by omega, hD'⟩
theorem SameX.free {B D : Addr} {H H' : Hp} (e : SameX B H H') (b : ∃ o, H' B = some o) (hD : H' D = none) : H D = none := by
  cases z : H D with
  | none => rfl
  | some o =>
    exfalso
    by_cases hDB : D = B
    · obtain ⟨o', ho'⟩ := b
      rw [← hDB, hD] at ho'
      cases ho'
    · rw [e D o hDB z] at hD
      cases hD
theorem BoxAt.some {H : Hp} {B L : Addr} (h : BoxAt H B L) : ∃ o, H B = some o := by
  obtain ⟨o, ho, _⟩ := h.odd
  exact ⟨o, ho⟩
theorem scLawOuts : FnScope ["_law_box_here", "_law_n", "_law_kind", "_law_outs_here"] ["_law_box_here", "_law_n"] (defScope sLawOuts) := fnScope_by (by decide +kernel)
theorem c__law_outs (T : Tx K mg) : Cal P w K mg base 3 "_law_outs" spLawOuts [] := by
  refine calD T.d__law_outs T.g__law_outs scLawOuts (fun _ _ _ _ _ _ us hl => match us, hl with | [_, _], _ => rfl) (fun vs H Q E h => ?_) (fun cdv A outer s H vs Q E hr h => ?_)
  · obtain ⟨_, _, _, rfl, _⟩ := h
    rfl
  · obtain ⟨B, L, n, rfl, hBx, n1, n3, k⟩ := h
    have hu := hu_of hr
    refine ⟨_, (pss_cons (ps_set (i := 2) scLawOuts.nd rfl (Or.inl rfl) (pe_c (c__law_take T) hr (by decide) rfl (pa_cons (pv 0) (pa_cons pe_int pa_nil))))
      (pss_cons (ps_if (pt_cmpR op_eq (pv 2) pe_int (nomark _))
        (pss_one (ps_ret (pe_c (c__law_words T) hr (by decide) rfl (pa_cons (pv 0) (pa_cons (pv 1) (pa_cons pe_int pa_nil))))))
        pss_nil)
      (pss_cons (ps_set (i := 3) scLawOuts.nd rfl (Or.inl rfl) (pe_lst (pa_cons (pe_c (c__law_take T) hr (by decide) rfl (pa_cons (pv 0) (pa_cons (pv 1) pa_nil))) pa_nil)))
      (pss_cut (ps_if (pt_cmpR op_eq (pv 2) pe_int (nomark _))
        (pss_one (ps_expr (pe_bm PySem.F.plainAttrs_list PySem.F.slot_list_append PySem.F.type_list_append mt_append (pv 3) (pa_cons (pe_c (c__law_take T) hr (by decide) rfl (pa_cons (pv 0) (pa_cons (pv 1) pa_nil))) pa_nil))))
        pss_nil)
      (pss_one (ps_ret (pv 3))))))), ?_⟩
    refine ⟨_, rfl, B, L, 4, rfl, hBx, by decide, by decide, fun H1 r e1 b1 hr1 => ?_⟩
    refine ⟨_, rfl, rfl, _, rfl, ?_⟩
    cases h3 : decide (nV r = V.int 3) with
    | true =>
      refine iteT ⟨_, rfl, _, rfl, B, L, n, rfl, b1, n1, n3, fun H2 l e2 b2 hl ⟨m, m1, m2, hm⟩ => ?_⟩
      have h8 : m < 8 := Nat.lt_of_lt_of_le m2 (by rcases (show n = 1 ∨ n = 2 ∨ n = 3 by omega) with h | h | h <;> (subst h; decide))
      exact k _ l (e1.trans e2) b2 (e1.free b1.some hl) ⟨_, hm, bits_ne ⟨m, h8⟩ m1, bits_len ⟨m, h8⟩, fun a ha => Mu.bitsL_lt m2 ha⟩
    | false =>
      refine iteF ⟨_, rfl, _, rfl, B, L, n, rfl, b1, n1, by omega, fun H2 r2 e2 b2 hr2 => ⟨by show 1 ≤ sizeLine; decide, fun l hl => ?_⟩⟩
      have E2 := e1.trans e2
      have nl := b2.new hl
      have hlH := E2.free b2.some hl
      refine ⟨fun σ H' => ∃ A, A ≠ [] ∧ A.length ≤ 3 ∧ (∀ a ∈ A, a < n) ∧ σ = [some (.ref B), some (nV n), some (nV r), some (.ref l)] ∧ SameX B H H' ∧ BoxAt H' B L ∧ H' l = some (nlst A), ?_, ?_⟩
      · refine ⟨_, rfl, rfl, _, rfl, ?_⟩
        cases h2 : decide (nV r = V.int 2) with
        | true =>
          refine iteT ⟨_, rfl, .inl ⟨rfl, [nV r2], SqL.of upd_same⟩, _, rfl, _, rfl, B, L, n, rfl, b2.upd nl.1 nl.2, n1, by omega, fun H3 r3 e3 b3 hr3 => ?_⟩
          have l3 : H3 l = some (.lst [nV r2]) := e3 _ _ nl.1 upd_same
          refine ⟨l, _, _, rfl, rfl, l3, by show 1 < sizeLine; decide, [r2, r3], by simp, by show 2 ≤ 3; decide, ?_, rfl, ?_, b3.upd nl.1 nl.2, upd_same⟩
          · intro a ha
            rcases List.mem_cons.mp ha with h | h
            · rw [h]; exact hr2
            · rw [List.mem_singleton.mp h]; exact hr3
          · exact SameX.updn ((SameX.updn E2 hlH).trans e3) hlH
        | false =>
          refine iteF ⟨[r2], by simp, by show 1 ≤ 3; decide, ?_, rfl, SameX.updn E2 hlH, b2.upd nl.1 nl.2, upd_same⟩
          intro a ha
          rw [List.mem_singleton.mp ha]
          exact hr2
      · rintro σ H3 ⟨A, hA1, hA2, hA3, rfl, e3, b3, l3⟩
        exact ⟨_, rfl, k _ l e3 b3 hlH ⟨A, l3, hA1, hA2, hA3⟩⟩
end
end Mz
namespace Mz
open PySem PySem.Spec PyProof.Rows L2 He C8
/-- a list that grows at D while the box is drawn from -/
def PvX (B L : Addr) (H1 : Hp) (D : Addr) (R : Nat → Hp → List V → Prop) (i : Nat) (H : Hp) : Prop := ∃ acc, SameX B H1 H ∧ BoxAt H B L ∧ H D = some (.lst acc) ∧ R i H acc
theorem PvX.more {B L : Addr} {H1 H4 : Hp} {D : Addr} {R : Nat → Hp → List V → Prop} {i : Nat} {acc : List V} {y : V} (hD : H1 D = none) (nB : D ≠ B ∧ D ≠ L) (e : SameX B H1 H4) (b : BoxAt H4 B L) (h : H4 D = some (.lst acc)) (hl : acc.length < 1000) (r : R (i + 1) (L2.upd H4 D (.lst (acc ++ [y]))) (acc ++ [y])) :
    ∃ acc, H4 D = some (.lst acc) ∧ acc.length < sizeLine ∧ PvX B L H1 D R (i + 1) (L2.upd H4 D (.lst (acc ++ [y]))) := ⟨acc, h, small1000 (Nat.le_of_lt hl), _, SameX.updn e hD, b.upd nB.1 nB.2, upd_same, r⟩
theorem lc_keepX {B L : Addr} {J : It} {n : Nat} {G : Hp → Prop} {Y : Nat → Hp → V → Hp → Prop} (w : Walk J n G Y) {g : TG} {tt : TT} {te : TE} {vs : List Nat} {σ : L2.St} {H1 : Hp} {D : Addr} {Qd : Hp → Prop} (hD : H1 D = none) (b : BoxAt H1 B L) (R : Nat → Hp → List V → Prop) (h0 : R 0 (L2.upd H1 D (.lst [])) []) (hG : ∀ H, SameX B H1 H → G H)
    (hs : ∀ i x H H' acc, i < n → SameX B H1 H → BoxAt H B L → H D = some (.lst acc) → R i H acc → Y i H x H' → g x (wipe σ vs) H' fun σ2 H2 => wipe σ2 vs = wipe σ vs ∧ tt σ2 H2 fun b H3 =>
      if b = true then te σ2 H3 fun y H4 => ∃ acc, H4 D = some (.lst acc) ∧ acc.length < sizeLine ∧ PvX B L H1 D R (i + 1) (L2.upd H4 D (.lst (acc ++ [y]))) else PvX B L H1 D R (i + 1) H3)
    (hd : ∀ H acc, SameX B H1 H → BoxAt H B L → H D = some (.lst acc) → R n H acc → Qd H) :
    ∃ W : Nat → Nat → Hp → Prop, (∃ m, W 0 m (L2.upd H1 D (.lst []))) ∧ ∀ i m H, W i m H →
      (J.stop i H ∧ Qd H) ∨ (J.go i H ∧ ∃ Nx : Hp → Prop, (∀ H', Nx H' → ∃ m', m' < m ∧ W (i + 1) m' H') ∧ ∀ x H', J.yld i H x H' → g x (wipe σ vs) H' fun σ2 H2 => wipe σ2 vs = wipe σ vs ∧ tt σ2 H2 fun b H3 =>
        if b = true then te σ2 H3 fun y H4 => ∃ acc, H4 D = some (.lst acc) ∧ acc.length < sizeLine ∧ Nx (L2.upd H4 D (.lst (acc ++ [y]))) else Nx H3) := by
  have nB := b.new hD
  refine lc_it w (PvX B L H1 D R) ⟨[], SameX.updn SameX.refl hD, b.upd nB.1 nB.2, upd_same, h0⟩ (fun i H _ h => hG H h.choose_spec.1) (fun i x H H' hi h y => ?_) (fun H h => ?_)
  · obtain ⟨acc, h1, h2, h3, h4⟩ := h
    exact hs i x H H' acc hi h1 h2 h3 h4 y
  · obtain ⟨acc, h1, h2, h3, h4⟩ := h
    exact hd H acc h1 h2 h3 h4
theorem Pts.sameX {B : Addr} {H H' : Hp} {ls : List Addr} {R : List (List Nat)} (h : Pts H ls (R.map nlst)) (e : SameX B H H') (b : ∃ o, H B = some o ∧ Odd o) : Pts H' ls (R.map nlst) := by
  obtain ⟨o, hB, d⟩ := b
  refine ⟨h.1, fun i a u x y => ?_⟩
  have u1 := h.2 i a u x y
  refine e _ _ (ne_of u1 hB ?_) u1
  rw [List.getElem?_map] at y
  cases z : R[i]? with
  | none => rw [z] at y; cases y
  | some r =>
    rw [z] at y
    cases y
    exact (d.nl r).symm
theorem nlst_sameX {B : Addr} {H H' : Hp} {l : Addr} {A : List Nat} (h : H l = some (nlst A)) (e : SameX B H H') (b : ∃ o, H B = some o ∧ Odd o) : H' l = some (nlst A) := by
  obtain ⟨o, hB, d⟩ := b
  exact e _ _ (ne_of h hB (d.nl A).symm) h
theorem RowsAt.sameB {H H' : Hp} {l B : Addr} {R : List (List Nat)} (h : RowsAt H l R) (e : SameX B H H') (b : ∃ o, H B = some o ∧ Odd o) : RowsAt H' l R := by
  obtain ⟨o, hB, d⟩ := b
  exact h.sameX e hB d
theorem rgV0 (n : Nat) : HO.lst (rgV 0 ((n : Nat) : Int)) = nlst (List.range n) := by
  unfold rgV nlst
  congr 1
  rw [show (((n : Nat) : Int) - 0).toNat = n by omega]
  apply List.map_congr_left
  intro i _
  show V.int (0 + ((i : Nat) : Int)) = V.int ((i : Nat) : Int)
  congr 1
  omega
/-- what a person says, row by row -/
def rowsOf (n : Nat) (A : List Nat) (S : List (List Nat)) : List (List Nat) := (List.range n).map (pSaid n A S)
structure Tri (n : Nat) (A : List Nat) (S : List (List Nat)) : Prop where
  ok : PerOk n A S
  outs : ∀ r ∈ S, r ≠ [] ∧ r.length ≤ 3 ∧ ∀ o ∈ r, o < n
/-- hears, says, rows -/
def TriAt (H : Hp) (a s r n : Nat) (A : List Nat) (S : List (List Nat)) : Prop := H a = some (nlst A) ∧ RowsAt H s S ∧ RowsAt H r (rowsOf n A S) ∧ Tri n A S
theorem TriAt.same {H H' : Hp} {a s r n : Nat} {A : List Nat} {S : List (List Nat)} (h : TriAt H a s r n A S) (e : Same H H') : TriAt H' a s r n A S := ⟨e _ _ h.1, h.2.1.same e, h.2.2.1.same e, h.2.2.2⟩
theorem TriAt.sameB {B : Addr} {H H' : Hp} {a s r n : Nat} {A : List Nat} {S : List (List Nat)} (h : TriAt H a s r n A S) (e : SameX B H H') (b : ∃ o, H B = some o ∧ Odd o) : TriAt H' a s r n A S := ⟨nlst_sameX h.1 e b, h.2.1.sameB e b, h.2.2.1.sameB e b, h.2.2.2⟩
def PersAt (n : Nat) (H : Hp) (p : Addr) : Prop := ∃ (a s r : Addr) (A : List Nat) (S : List (List Nat)), H p = some (.lst [.ref a, .ref s, .ref r]) ∧ TriAt H a s r n A S
def spLawPerson : Sp := fun vs H Q _ => ∃ (B L : Addr) (n : Nat), vs = [.ref B, nV n] ∧ BoxAt H B L ∧ 1 ≤ n ∧ n ≤ 3 ∧ RB B L H (PersAt n) Q
section
variable {P : Program} {w : World} {K : PySem.W.Frag} {mg : Str → Option Value} {base : Heap}
theorem scLawPerson : FnScope ["_law_box_here", "_law_n", "_law_hears", "_law_says", "_law_rows", "_law_word", "_law_k", "_law_out"] ["_law_box_here", "_law_n"] (defScope sLawPerson) := fnScope_by (by decide +kernel)
theorem c__law_person (T : Tx K mg) : Cal P w K mg base 4 "_law_person" spLawPerson [] := by
  refine calD T.d__law_person T.g__law_person scLawPerson (fun _ _ _ _ _ _ us hl => match us, hl with | [_, _], _ => rfl) (fun vs H Q E h => ?_) (fun cdv A outer s H vs Q E hr h => ?_)
  · obtain ⟨_, _, _, rfl, _⟩ := h
    rfl
  · obtain ⟨B, L, n, rfl, hBx, n1, n3, k⟩ := h
    have hu := hu_of hr
    refine ⟨_, (pss_cons (ps_set (i := 2) scLawPerson.nd rfl (Or.inr rfl) (pe_listRg rfl rfl T.z_list (prg_1 rfl T.z_range (pv 1))))
      (pss_cut (ps_if (pt_cmpR op_eq (pe_c (c__law_take T) hr (by decide) rfl (pa_cons (pv 0) (pa_cons pe_int pa_nil))) pe_int (nomark _))
        (pss_one (ps_set (i := 2) scLawPerson.nd rfl (Or.inr rfl) (pe_lc (own := [("_law_k", 6)]) (g := gName 6) (tt := tYes)  (rfl) scLawPerson.nd (pi_range1 rfl T.z_range (pa_cons (pv 1) pa_nil)) (blkOk_by (own := [("_law_k", 6)]) (N := ["_law_box_here", "_law_n", "_law_hears", "_law_says", "_law_rows", "_law_word", "_law_k", "_law_out"]) (sc := defScope sLawPerson) (by decide +kernel)) (fun _ _ _ _ _ => pg_name (i := 6) scLawPerson.nd rfl (Or.inl rfl)) (fun _ _ _ _ _ => pts_nil) (fun _ _ _ _ _ => (pe_c (c__law_take T) hr (by decide) rfl (pa_cons (pv 0) (pa_cons (pv 1) pa_nil)))))))
        pss_nil)
      (pss_cons (ps_set (i := 3) scLawPerson.nd rfl (Or.inr rfl) (pe_lc (own := [("_law_k", 6)]) (g := gName 6) (tt := tYes)  (rfl) scLawPerson.nd (pi_range1 rfl T.z_range (pa_cons (pv 1) pa_nil)) (blkOk_by (own := [("_law_k", 6)]) (N := ["_law_box_here", "_law_n", "_law_hears", "_law_says", "_law_rows", "_law_word", "_law_k", "_law_out"]) (sc := defScope sLawPerson) (by decide +kernel)) (fun _ _ _ _ _ => pg_name (i := 6) scLawPerson.nd rfl (Or.inl rfl)) (fun _ _ _ _ _ => pts_nil) (fun _ _ _ _ _ => (pe_c (c__law_outs T) hr (by decide) rfl (pa_cons (pv 0) (pa_cons (pv 1) pa_nil))))))
      (pss_cons (ps_set (i := 4) scLawPerson.nd rfl (Or.inl rfl) (pe_lst pa_nil))
      (pss_cons (ps_for PassesOwn.never rfl (pi_range1 rfl T.z_range (pa_cons (pv 1) pa_nil)) (pg_name (i := 5) scLawPerson.nd rfl (Or.inr rfl))
        (pss_one (ps_expr (pe_bm PySem.F.plainAttrs_list PySem.F.slot_list_append PySem.F.type_list_append mt_append (pv 4) (pa_cons (pe_lc (own := [("_law_out", 7)]) (g := gName 7)  (rfl) scLawPerson.nd (pi_range1 rfl T.z_range (pa_cons (pv 1) pa_nil)) (blkOk_by (own := [("_law_out", 7)]) (N := ["_law_box_here", "_law_n", "_law_hears", "_law_says", "_law_rows", "_law_word", "_law_k", "_law_out"]) (sc := defScope sLawPerson) (by decide +kernel)) (fun _ _ _ _ _ => pg_name (i := 7) scLawPerson.nd rfl (Or.inl rfl)) (fun _ _ _ _ _ => (pts_one (pt_cmpR (op_inK (K := K) rfl) (pv 7) (pe_ix (ix_listK (K := K) rfl) (pv 3) (pe_ix (ix_listK (K := K) rfl) (pv 2) (pv 5) (fun _ _ => rfl)) (fun _ _ => rfl)) (by rfl)))) (fun _ _ _ _ _ => (pv 7))) pa_nil)))))
      (pss_one (ps_ret (pe_lst (pa_cons (pv 2) (pa_cons (pv 3) (pa_cons (pv 4) pa_nil))))))))))), ?_⟩
    refine ⟨_, rfl, _, rfl, RgOk.of_le (by omega) (by omega) (by omega) (by omega), fun a0 ha0 => ?_⟩
    rw [rgV0]
    have na := hBx.new ha0
    have b0 := hBx.upd (o := nlst (List.range n)) na.1 na.2
    refine ⟨fun σ H' => ∃ a A, σ = [some (.ref B), some (nV n), some (.ref a), none, none, none, none, none] ∧ SameX B H H' ∧ BoxAt H' B L ∧ H' a = some (nlst A) ∧ A.length = n ∧ ∀ x ∈ A, x < n, ?_, ?_⟩
    · refine ⟨_, rfl, B, L, 3, rfl, b0, by decide, by decide, fun H1 r e1 b1 hr1 => ⟨rfl, _, rfl, ?_⟩⟩
      have E1 := (SameX.updn (o := nlst (List.range n)) (SameX.refl (x := B)) ha0).trans e1
      cases h1 : decide (nV r = V.int 1) with
      | true =>
        refine iteT ⟨_, rfl, _, rfl, by omega, by omega, fun D hD => ?_⟩
        refine lc_keepX (walk_range (n := n)) hD b1 (fun i _ acc => ∃ A : List Nat, acc = A.map nV ∧ A.length = i ∧ ∀ x ∈ A, x < n) ⟨[], rfl, rfl, by simp⟩ (fun _ _ => trivial) ?_ ?_
        · rintro i x H2 H3 acc hi e2 b2 hD2 ⟨A1, rfl, hA1, hA2⟩ ⟨rfl, rfl⟩
          refine ⟨rfl, _, rfl, _, rfl, B, L, n, rfl, b2, n1, by omega, fun H4 r4 e4 b4 hr4 => ?_⟩
          have nD := b1.new hD
          refine PvX.more hD nD (e2.trans e4) b4 (e4 _ _ nD.1 hD2) (by rw [List.length_map]; omega) ⟨A1 ++ [r4], by simp, by simp [hA1], ?_⟩
          intro x hx
          rcases List.mem_append.mp hx with h | h
          · exact hA2 x h
          · rw [List.mem_singleton.mp h]
            exact hr4
        · rintro H2 acc e2 b2 hD2 ⟨A1, rfl, hA1, hA2⟩
          exact ⟨D, A1, rfl, E1.trans e2, b2, hD2, hA1, hA2⟩
      | false =>
        refine iteF ⟨a0, List.range n, rfl, E1, b1, e1 _ _ na.1 upd_same, by simp, fun x hx => List.mem_range.mp hx⟩
    · rintro σ H1 ⟨a, A1, rfl, e1, b1, ha, hAl, hAn⟩
      refine ⟨_, rfl, _, rfl, by omega, by omega, fun D hD => ?_⟩
      have nD := b1.new hD
      have hDH := e1.free b1.some hD
      refine lc_keepX (walk_range (n := n)) hD b1 (fun i H' acc => ∃ (ls : List Addr) (S1 : List (List Nat)), acc = ls.map V.ref ∧ Pts H' ls (S1.map nlst) ∧ D ∉ ls ∧ S1.length = i ∧ ∀ r ∈ S1, r ≠ [] ∧ r.length ≤ 3 ∧ ∀ o ∈ r, o < n) ⟨[], [], rfl, Pts.nil, by simp, rfl, by simp⟩ (fun _ _ => trivial) ?_ ?_
      · rintro i x H2 H3 acc hi e2 b2 hD2 ⟨ls, S1, rfl, hp, hDl, hS1, hS2⟩ ⟨rfl, rfl⟩
        refine ⟨rfl, _, rfl, _, rfl, B, L, n, rfl, b2, n1, n3, fun H4 l e4 b4 hl ⟨A4, hl4, q1, q2, q3⟩ => ?_⟩
        have hDl' : D ≠ l := fun z => by
          rw [← z, hD2] at hl
          cases hl
        have hll : ls.length = i := by
          have := hp.1
          simp at this
          omega
        have hDn : D ∉ ls ++ [l] := by
          intro z
          rcases List.mem_append.mp z with z | z
          · exact hDl z
          · exact hDl' (List.mem_singleton.mp z)
        refine PvX.more (acc := ls.map V.ref) hD nD (e2.trans e4) b4 (e4 _ _ nD.1 hD2) (by rw [List.length_map]; omega) ⟨ls ++ [l], S1 ++ [A4], by simp, ?_, hDn, by simp [hS1], ?_⟩
        · rw [List.map_append]
          exact Pts.upd ((hp.sameX e4 b2.odd).snoc hl4) hDn
        · intro r hr2
          rcases List.mem_append.mp hr2 with h | h
          · exact hS2 r h
          · rw [List.mem_singleton.mp h]
            exact ⟨q1, q2, q3⟩
      · rintro H2 acc e2 b2 hD2 ⟨ls, S1, rfl, hp, hDl, hS1, hS2⟩
        have E2 := e1.trans e2
        have a2 := nlst_sameX ha e2 b1.odd
        have ok : PerOk n A1 S1 := ⟨n1, n3, hAl, hS1, hAn⟩
        refine ⟨Nat.zero_le _, fun rw0 hrw => ?_⟩
        have nR := b2.new hrw
        have eR : Same H2 (L2.upd H2 rw0 (.lst [])) := Same.upd (Same.refl _) hrw
        refine ⟨_, rfl, _, rfl, by omega, by omega, ?_⟩
        have hsR : RowsAt H2 D S1 := ⟨ls, hD2, hp⟩
        refine for_it (walk_range (n := n)) (fun i σ H' => ∃ (rs : List Addr) (z5 : Option V), σ = [some (.ref B), some (nV n), some (.ref a), some (.ref D), some (.ref rw0), z5, none, none] ∧ Same H2 H' ∧ H' rw0 = some (.lst (rs.map V.ref)) ∧ Pts H' rs (((List.range i).map (pSaid n A1 S1)).map nlst) ∧ rw0 ∉ rs)
          ⟨[], none, rfl, eR, upd_same, Pts.nil, by simp⟩ (fun _ _ _ _ _ => trivial) ?_ ?_
        · rintro i v σ H3 H4 hi ⟨rs, z5, rfl, e3, hrw3, hprs, hnrs⟩ ⟨rfl, rfl⟩
          have hll : rs.length = i := by
            have := hprs.1
            simp at this
            omega
          have hA0 : i < A1.length := by omega
          have haS : A1.getD i 0 < S1.length := by
            rw [hS1, List.getD_eq_getElem?_getD, List.getElem?_eq_getElem hA0]
            exact hAn _ (List.getElem_mem _)
          obtain ⟨b, hb, hBb⟩ := hp.get (i := A1.getD i 0) (o := nlst (S1.getD (A1.getD i 0) [])) (by rw [List.getElem?_map, getD_at haS]; rfl)
          refine ⟨_, rfl, .inl ⟨rfl, _, SqL.of hrw3⟩, ?_⟩
          refine ⟨_, rfl, _, rfl, by omega, by omega, fun D2 hD2n => ?_⟩
          refine lc_keep (walk_range (n := n)) hD2n (fun j _ acc => acc = ((List.range j).filter fun o => decide (o ∈ S1.getD (A1.getD i 0) [])).map nV) rfl (fun _ _ => trivial) ?_ ?_
          · rintro j x H5 H6 acc hj e5 hD5 rfl ⟨rfl, rfl⟩
            refine ⟨rfl, _, rfl, _, rfl, _, rfl, _, rfl, a, _, _, nV (A1.getD i 0), rfl, rfl, SqL.of (e5 _ _ (e3 _ _ a2)), ?_, D, _, _, .ref b, rfl, rfl, SqL.of (e5 _ _ (e3 _ _ hD2)), ?_, ?_⟩
            · rw [show (0 : Int) + (i : Nat) = ((i : Nat) : Int) by omega]
              exact atI_nat (by rw [List.getElem?_map, getD_at hA0]; rfl)
            · exact atI_nat (by rw [List.getElem?_map, hb]; rfl)
            refine ⟨b, _, rfl, .inl (SqL.of (e5 _ _ (e3 _ _ hBb))), rfl, flat_nat _, _, rfl, ?_⟩
            have ei : inV (V.int (0 + (j : Nat))) ((S1.getD (A1.getD i 0) []).map nV) = decide (j ∈ S1.getD (A1.getD i 0) []) := by
              rw [show (0 : Int) + (j : Nat) = ((j : Nat) : Int) by omega]
              exact inV_nat j _
            show if inV (V.int (0 + (j : Nat))) ((S1.getD (A1.getD i 0) []).map nV) = true then _ else _
            rw [ei]
            have er : (List.range (j + 1)).filter (fun o => decide (o ∈ S1.getD (A1.getD i 0) [])) = (List.range j).filter (fun o => decide (o ∈ S1.getD (A1.getD i 0) [])) ++ (if decide (j ∈ S1.getD (A1.getD i 0) []) = true then [j] else []) := by
              rw [List.range_succ, List.filter_append, List.filter_cons]
              rfl
            cases hd : decide (j ∈ S1.getD (A1.getD i 0) []) with
            | true =>
              rw [hd, if_pos rfl] at er
              refine iteT ⟨_, rfl, PvK.more hD2n e5 hD5 ?_ ?_⟩
              · rw [List.length_map]
                have := List.length_filter_le (fun o => decide (o ∈ S1.getD (A1.getD i 0) [])) (List.range j)
                rw [List.length_range] at this
                omega
              · rw [er, List.map_append]
                congr 2
                show V.int (0 + ((j : Nat) : Int)) = V.int ((j : Nat) : Int)
                congr 1
                omega
            | false =>
              rw [hd, if_neg Bool.false_ne_true, List.append_nil] at er
              refine iteF ⟨_, e5, hD5, ?_⟩
              show _ = List.map nV (List.filter (fun o => decide (o ∈ S1.getD (A1.getD i 0) [])) (List.range (j + 1)))
              rw [er]
          · rintro H5 acc e5 hD5 rfl
            have rw5 := e5 _ _ hrw3
            have nD2 : rw0 ≠ D2 := fun z => by
              rw [← z, hrw3] at hD2n
              cases hD2n
            have hn2 : rw0 ∉ rs ++ [D2] := by
              intro z
              rcases List.mem_append.mp z with z | z
              · exact hnrs z
              · exact nD2 (List.mem_singleton.mp z)
            refine ⟨rw0, _, _, rfl, rfl, rw5, small1000 (by rw [List.length_map]; omega), rs ++ [D2], some (.int (0 + (i : Nat))), rfl, Same.updn (e3.trans e5) hrw, ?_, ?_, hn2⟩
            · rw [upd_same]
              simp
            · rw [List.range_succ]
              simp only [List.map_append, List.map_cons, List.map_nil]
              exact Pts.upd ((hprs.same e5).snoc hD5) hn2
        · rintro σ H3 ⟨rs, z5, rfl, e3, hrw3, hprs, hnrs⟩
          refine ⟨_, rfl, _, rfl, _, rfl, by show 3 ≤ sizeLine; decide, fun p hp2 => ?_⟩
          have E3 := E2.trans (SameX.of e3)
          have b3 := b2.same e3
          have np := b3.new hp2
          have ep : Same H3 (L2.upd H3 p (.lst [.ref a, .ref D, .ref rw0])) := Same.upd (Same.refl _) hp2
          exact k _ p (SameX.updn E3 (E3.free b3.some hp2)) (b3.upd np.1 np.2) (E3.free b3.some hp2) ⟨a, D, rw0, A1, S1, upd_same, ep _ _ (e3 _ _ a2), (hsR.same e3).same ep, RowsAt.same ⟨rs, hrw3, hprs⟩ ep, ⟨ok, hS2⟩⟩
end
end Mz
namespace Mz
open PySem PySem.Spec PyProof.Rows L2 He C8
/-- an entry's data -/
abbrev Ent : Type := Nat × List Nat × List (List Nat)
def EntAt (n : Nat) (H : Hp) (p : Addr) (e : Ent) : Prop := ∃ (a s r : Addr), H p = some (.lst [lV e.1, .ref a, .ref s, .ref r]) ∧ TriAt H a s r n e.2.1 e.2.2
def FolksAt (n : Nat) (H : Hp) (l : Addr) (E : List Ent) : Prop := ∃ ps : List Addr, H l = some (.lst (ps.map V.ref)) ∧ ps.length = E.length ∧ ∀ (i : Nat) (p : Addr) (e : Ent), ps[i]? = some p → E[i]? = some e → EntAt n H p e
theorem EntAt.same {n : Nat} {H H' : Hp} {p : Addr} {e : Ent} (h : EntAt n H p e) (s : Same H H') : EntAt n H' p e := by
  obtain ⟨a, b, r, h1, h2⟩ := h
  exact ⟨a, b, r, s _ _ h1, h2.same s⟩
theorem ent_box {c : Nat} {a s r L : Addr} {i x y : Int} : HO.lst [lV c, .ref a, .ref s, .ref r] ≠ boxO L i x y := fun z => by
  unfold boxO at z
  injection z with z
  injection z with z
  cases z
theorem refs_box {ls : List Addr} {L : Addr} {i x y : Int} : HO.lst (ls.map V.ref) ≠ boxO L i x y := fun z => (odd_box (L := L) (i := i) (a := x) (b := y)).refs ls z.symm
theorem EntAt.sameB {n : Nat} {B L : Addr} {H H' : Hp} {p : Addr} {e : Ent} (h : EntAt n H p e) (s : SameX B H H') (b : BoxAt H B L) : EntAt n H' p e := by
  obtain ⟨a, q, r, h1, h2⟩ := h
  obtain ⟨ns, i, x, y, hb, _⟩ := id b
  exact ⟨a, q, r, s _ _ (ne_of h1 hb ent_box) h1, h2.sameB s b.odd⟩
theorem FolksAt.same {n : Nat} {H H' : Hp} {l : Addr} {E : List Ent} (h : FolksAt n H l E) (s : Same H H') : FolksAt n H' l E := by
  obtain ⟨ps, h1, h2, h3⟩ := h
  exact ⟨ps, s _ _ h1, h2, fun i p e x y => (h3 i p e x y).same s⟩
theorem FolksAt.sameB {n : Nat} {B L : Addr} {H H' : Hp} {l : Addr} {E : List Ent} (h : FolksAt n H l E) (s : SameX B H H') (b : BoxAt H B L) : FolksAt n H' l E := by
  obtain ⟨ps, h1, h2, h3⟩ := h
  obtain ⟨ns, i, x, y, hb, _⟩ := id b
  exact ⟨ps, s _ _ (ne_of h1 hb refs_box) h1, h2, fun i p e x y => (h3 i p e x y).sameB s b⟩
/-- full rows, single rows -/
theorem idRows (n : Nat) : rowsOf n (List.range n) ((List.range n).map fun i => [i]) = (List.range n).map fun i => [i] := by
  unfold rowsOf
  apply List.map_congr_left
  intro i hi
  have hi' : i < n := List.mem_range.mp hi
  unfold pSaid
  have e1 : (List.range n).getD i 0 = i := by simp [List.getD_eq_getElem?_getD, hi']
  have e2 : ((List.range n).map fun i => [i]).getD i [] = [i] := by simp [List.getD_eq_getElem?_getD, hi']
  rw [e1, e2]
  have e3 : (fun o => decide (o ∈ [i])) = fun o => o == i := by
    funext o
    simp
    rfl
  rw [e3]
  rw [List.filter_beq]
  have e4 : (List.range n).count i = 1 := by
    have h1 := List.nodup_range (n := n)
    have := List.Nodup.count h1 (a := i)
    rw [this, if_pos hi]
  rw [e4]
  rfl
theorem fullRows (n : Nat) : rowsOf n (List.range n) ((List.range n).map fun _ => List.range n) = (List.range n).map fun _ => List.range n := by
  unfold rowsOf
  apply List.map_congr_left
  intro i hi
  have hi' : i < n := List.mem_range.mp hi
  unfold pSaid
  have e1 : (List.range n).getD i 0 = i := by simp [List.getD_eq_getElem?_getD, hi']
  have e2 : ((List.range n).map fun _ => List.range n).getD i [] = List.range n := by simp [List.getD_eq_getElem?_getD, hi']
  rw [e1, e2]
  apply List.filter_eq_self.mpr
  intro o ho
  exact decide_eq_true ho
theorem tri_id {n : Nat} (n1 : 1 ≤ n) (n3 : n ≤ 3) : Tri n (List.range n) ((List.range n).map fun i => [i]) := by
  refine ⟨⟨n1, n3, by simp, by simp, fun a ha => List.mem_range.mp ha⟩, fun r hr => ?_⟩
  obtain ⟨i, hi, rfl⟩ := List.mem_map.mp hr
  exact ⟨by simp, by show 1 ≤ 3; decide, fun o ho => by rw [List.mem_singleton.mp ho]; exact List.mem_range.mp hi⟩
theorem tri_full {n : Nat} (n1 : 1 ≤ n) (n3 : n ≤ 3) : Tri n (List.range n) ((List.range n).map fun _ => List.range n) := by
  refine ⟨⟨n1, n3, by simp, by simp, fun a ha => List.mem_range.mp ha⟩, fun r hr => ?_⟩
  obtain ⟨i, hi, rfl⟩ := List.mem_map.mp hr
  refine ⟨fun z => ?_, by simpa using n3, fun o ho => List.mem_range.mp ho⟩
  have := congrArg List.length z
  simp at this
  omega
/-! data of an entry -/
def dE (n : Nat) (e : Ent) : PyData := .list [.str (SX.S [e.1]), dL e.2.1, .list (e.2.2.map dL), .list ((rowsOf n e.2.1 e.2.2).map dL)]
theorem dpE {K : PySem.W.Frag} {n : Nat} {H : Hp} {p : Addr} {e : Ent} (h : EntAt n H p e) : Dp K H (.ref p) (dE n e) := by
  obtain ⟨a, s, r, h1, h2, h3, h4, _⟩ := h
  exact .lst (SqL.of h1) (.cons (.str _) (.cons (dpL h2) (.cons (dpR h3) (.cons (dpR h4) .nil))))
theorem dpEs {K : PySem.W.Frag} {n : Nat} {H : Hp} : ∀ {ps : List Addr} {E : List Ent}, ps.length = E.length → (∀ (i : Nat) (p : Addr) (e : Ent), ps[i]? = some p → E[i]? = some e → EntAt n H p e) → DpAll K H (ps.map V.ref) (E.map (dE n))
  | [], [], _, _ => .nil
  | [], _ :: _, h, _ => by simp at h
  | _ :: _, [], h, _ => by simp at h
  | p :: ps, e :: E, h, k => .cons (dpE (k 0 p e rfl rfl)) (dpEs (by simpa using h) fun i q u x y => k (i + 1) q u (by simpa using x) (by simpa using y))
theorem layE {n : Nat} {e : Ent} (h : e.1 ∈ abc) : (dE n e).canLay0 = true := by
  have hs : PyData.strOk (SX.S [e.1]) = true := by
    have : ∀ c ∈ abc, PyData.strOk (SX.S [c]) = true := by decide +kernel
    exact this _ h
  unfold dE
  simp only [PyData.canLay0, PyData.canLayAll0, hs, layI, layR, Bool.and_self]
theorem depE {n : Nat} {e : Ent} : (dE n e).depth ≤ 4 := by
  have h1 := depI e.2.1
  have h2 := depR e.2.2
  have h3 := depR (rowsOf n e.2.1 e.2.2)
  unfold dE
  simp only [PyData.depth, PyData.depthAll]
  omega
theorem shEs {n : Nat} : ∀ {E : List Ent}, (∀ e ∈ E, e.1 ∈ abc) → SeqAt.shaped (.list (E.map (dE n))) = true := by
  intro E h
  have h1 : PyData.canLayAll0 (E.map (dE n)) = true := by
    induction E with
    | nil => simp [PyData.canLayAll0]
    | cons e E ih =>
      rw [List.map_cons, PyData.canLayAll0, layE (h e (List.mem_cons_self ..)), ih fun x hx => h x (List.mem_cons_of_mem _ hx)]
      rfl
  have h2 : PyData.depthAll (E.map (dE n)) ≤ 4 := by
    clear h1 h
    induction E with
    | nil => simp [PyData.depthAll]
    | cons e E ih =>
      have := depE (n := n) (e := e)
      rw [List.map_cons, PyData.depthAll]
      omega
  exact sh_of (by simp only [PyData.canLay0]; exact h1) (by simp only [PyData.depth]; omega)
theorem eqv_nil (ds : List PyData) : PyData.eqv (.list ds) (.list []) = ds.isEmpty := by
  rw [PyData.eqv]
  cases ds <;> rfl
theorem sh_nil : SeqAt.shaped (.list []) = true := by decide +kernel
theorem pSaid_ne {n : Nat} {A : List Nat} {S : List (List Nat)} (t : Tri n A S) {i : Nat} (hi : i < n) : pSaid n A S i ≠ [] := by
  have hA : i < A.length := by rw [t.ok.la]; exact hi
  have hAi : A.getD i 0 < n := by
    rw [List.getD_eq_getElem?_getD, List.getElem?_eq_getElem hA]
    exact t.ok.ha _ (List.getElem_mem _)
  have hS : A.getD i 0 < S.length := by rw [t.ok.ls]; exact hAi
  have hmem : S.getD (A.getD i 0) [] ∈ S := List.mem_of_getElem? (getD_at (d := []) hS)
  obtain ⟨h1, h2, h3⟩ := t.outs _ hmem
  intro z
  cases e : S.getD (A.getD i 0) [] with
  | nil => exact h1 e
  | cons o x =>
    have ho : o ∈ pSaid n A S i := by
      unfold pSaid
      rw [e]
      exact List.mem_filter.mpr ⟨List.mem_range.mpr (h3 o (by rw [e]; exact List.mem_cons_self ..)), by simp⟩
    rw [z] at ho
    cases ho
theorem nl_refs {X : List Nat} {ps : List Addr} (h : X ≠ []) : nlst X ≠ .lst (ps.map V.ref) := fun z => by
  unfold nlst at z
  injection z with z
  match X, ps, h, z with
  | x :: X, [], _, z => cases z
  | x :: X, p :: ps, _, z => cases z
theorem rows_upd {H : Hp} {l s : Addr} {o : HO} {ps : List Addr} {R : List (List Nat)} (hl : H l = some (.lst (ps.map V.ref))) (hps : ∀ p ∈ ps, ∃ c x, H p = some (.lst (lV c :: x))) (h : RowsAt H s R) (hR : R ≠ []) (hr : ∀ r ∈ R, r ≠ []) : RowsAt (L2.upd H l o) s R := by
  obtain ⟨ls, h1, h2⟩ := h
  have sl : s ≠ l := fun z => by
    rw [z, hl] at h1
    have h1 := Option.some.inj h1
    injection h1 with h1
    have e : ps = ls := by
      exact (List.map_inj_right (fun x y h => by injection h)).mp h1
    subst e
    cases R with
    | nil => exact hR rfl
    | cons r R =>
      obtain ⟨a, ha, hA⟩ := h2.get (i := 0) (o := nlst r) rfl
      obtain ⟨c, x, hc⟩ := hps a (List.mem_of_getElem? ha)
      rw [hA] at hc
      have hc := Option.some.inj hc
      unfold nlst at hc
      injection hc with hc
      cases r with
      | nil => cases hc
      | cons y r => cases hc
  refine ⟨ls, by rw [upd_ne sl]; exact h1, h2.upd fun z => ?_⟩
  obtain ⟨i, hi⟩ := List.mem_iff_getElem?.mp z
  have hil : i < (R.map nlst).length := by
    rw [← h2.1]
    exact (List.getElem?_eq_some_iff.mp hi).1
  rw [List.length_map] at hil
  have e := h2.2 i l (nlst R[i]) hi (by simp [hil])
  rw [hl] at e
  exact nl_refs (hr _ (List.getElem_mem hil)) (Option.some.inj e).symm
theorem tri_upd {H : Hp} {l a s r n : Nat} {o : HO} {ps : List Addr} {A : List Nat} {S : List (List Nat)} (hl : H l = some (.lst (ps.map V.ref))) (hps : ∀ p ∈ ps, ∃ c x, H p = some (.lst (lV c :: x))) (h : TriAt H a s r n A S) : TriAt (L2.upd H l o) a s r n A S := by
  obtain ⟨h1, h2, h3, t⟩ := h
  have hn := t.ok.n1
  refine ⟨?_, rows_upd hl hps h2 (fun z => ?_) fun r hr => (t.outs r hr).1, rows_upd hl hps h3 (fun z => ?_) fun r hr => ?_, t⟩
  · have : a ≠ l := fun z => by
      rw [z, hl] at h1
      refine nl_refs (X := A) (fun z => ?_) (Option.some.inj h1).symm
      have := t.ok.la
      rw [z] at this
      simp at this
      omega
    rw [upd_ne this]
    exact h1
  · have := t.ok.ls
    rw [z] at this
    simp at this
    omega
  · have := congrArg List.length z
    unfold rowsOf at this
    simp at this
    omega
  · unfold rowsOf at hr
    obtain ⟨i, hi, rfl⟩ := List.mem_map.mp hr
    exact pSaid_ne t (List.mem_range.mp hi)
def spLawCalmFolk : Sp := fun vs H Q _ => ∃ (B L : Addr) (n m : Nat), vs = [.ref B, nV n, nV m] ∧ BoxAt H B L ∧ 1 ≤ n ∧ n ≤ 3 ∧ m ≤ 4 ∧ RB B L H (fun H' l => ∃ E : List Ent, FolksAt n H' l E ∧ E.length = m ∧ (E.map (·.1)).Nodup ∧ ∀ e ∈ E, e.1 ∈ abc) Q
section
variable {P : Program} {w : World} {K : PySem.W.Frag} {mg : Str → Option Value} {base : Heap}
theorem rd_ids {a : Addr} {n : Nat} {H : Hp} {Q : VK} {s0 s1 s2 s3 s5 s6 s7 s8 : Option V} (n3 : n ≤ 3) (ha : H a = some (nlst (List.range n))) (k : ∀ H' D, Same H H' → H D = none → RowsAt H' D ((List.range n).map fun i => [i]) → Q (.ref D) H') :
    tLc (iList K (tVar 4)) (gName 8) tYes (tLst (tCons (tVar 8) tNil)) (List.map (fun x : Str × Nat => x.2) [("_law_word", 8)]) [s0, s1, s2, s3, some (.ref a), s5, s6, s7, s8] H Q := by
  refine ⟨_, rfl, a, rfl, ⟨_, SqL.of ha⟩, fun D hD => ?_⟩
  refine lc_keep (walk_list (xs := (List.range n).map nV)) hD (fun i H' acc => ∃ ls : List Addr, acc = ls.map V.ref ∧ Pts H' ls (((List.range i).map fun i => [i]).map nlst) ∧ D ∉ ls) ⟨[], rfl, Pts.nil, by simp⟩ (fun H' e => SqL.of (e _ _ ha)) ?_ ?_
  · rintro i x H1 H2 acc hi e hD1 ⟨ls, rfl, hp, hDl⟩ ⟨rfl, hx⟩
    obtain ⟨y, hy, rfl⟩ := nlst_get hx
    rw [List.length_map, List.length_range] at hi
    have hyi : y = i := by
      rw [List.getElem?_range hi] at hy
      exact (Option.some.inj hy).symm
    subst hyi
    have hll : ls.length = y := by
      have := hp.1
      simp at this
      omega
    refine ⟨rfl, _, rfl, by show 1 ≤ sizeLine; decide, fun b hb => ?_⟩
    have hDb : D ∉ ls ++ [b] := by
      intro z
      rcases List.mem_append.mp z with z | z
      · exact hDl z
      · rw [← List.mem_singleton.mp z, hD1] at hb
        cases hb
    refine PvK.more (acc := ls.map V.ref) hD (Same.upd e hb) ?_ (by rw [List.length_map]; omega) ⟨ls ++ [b], by simp, ?_, hDb⟩
    · rw [upd_ne (ne_of_none hD1 hb)]
      exact hD1
    · rw [List.range_succ]
      simp only [List.map_append, List.map_cons, List.map_nil]
      exact Pts.upd ((hp.same (Same.upd (Same.refl _) hb)).snoc (by rw [upd_same]; rfl)) hDb
  · rintro H' acc e hD' ⟨ls, rfl, hp, hDl⟩
    rw [List.length_map, List.length_range] at hp
    exact k _ D e hD ⟨ls, hD', hp⟩
theorem rd_full {a : Addr} {n : Nat} {H : Hp} {Q : VK} {s0 s1 s2 s3 s5 s6 s7 s8 : Option V} (n3 : n ≤ 3) (ha : H a = some (nlst (List.range n))) (k : ∀ H' D, Same H H' → H D = none → RowsAt H' D ((List.range n).map fun _ => List.range n) → Q (.ref D) H') :
    tLc (iList K (tVar 4)) (gName 8) tYes (tCB (fun xs H Q => ∃ p ys, xs = [.ref p] ∧ (SqL K H p ys ∨ SqT K H p ys) ∧ ∀ l, H l = none → Q (.ref l) (L2.upd H l (.lst ys))) (tCons (tVar 4) tNil)) (List.map (fun x : Str × Nat => x.2) [("_law_word", 8)]) [s0, s1, s2, s3, some (.ref a), s5, s6, s7, s8] H Q := by
  refine ⟨_, rfl, a, rfl, ⟨_, SqL.of ha⟩, fun D hD => ?_⟩
  refine lc_keep (walk_list (xs := (List.range n).map nV)) hD (fun i H' acc => ∃ ls : List Addr, acc = ls.map V.ref ∧ Pts H' ls (((List.range i).map fun _ => List.range n).map nlst) ∧ D ∉ ls) ⟨[], rfl, Pts.nil, by simp⟩ (fun H' e => SqL.of (e _ _ ha)) ?_ ?_
  · rintro i x H1 H2 acc hi e hD1 ⟨ls, rfl, hp, hDl⟩ ⟨rfl, hx⟩
    rw [List.length_map, List.length_range] at hi
    have hll : ls.length = i := by
      have := hp.1
      simp at this
      omega
    refine ⟨rfl, _, rfl, a, _, rfl, .inl (SqL.of (e _ _ ha)), fun b hb => ?_⟩
    have hDb : D ∉ ls ++ [b] := by
      intro z
      rcases List.mem_append.mp z with z | z
      · exact hDl z
      · rw [← List.mem_singleton.mp z, hD1] at hb
        cases hb
    refine PvK.more (acc := ls.map V.ref) hD (Same.upd e hb) ?_ (by rw [List.length_map]; omega) ⟨ls ++ [b], by simp, ?_, hDb⟩
    · rw [upd_ne (ne_of_none hD1 hb)]
      exact hD1
    · rw [List.range_succ]
      simp only [List.map_append, List.map_cons, List.map_nil]
      exact Pts.upd ((hp.same (Same.upd (Same.refl _) hb)).snoc (by rw [upd_same]; rfl)) hDb
  · rintro H' acc e hD' ⟨ls, rfl, hp, hDl⟩
    rw [List.length_map, List.length_range] at hp
    exact k _ D e hD ⟨ls, hD', hp⟩
theorem scLawCalmFolk : FnScope ["_law_box_here", "_law_n", "_law_many", "_law_folk", "_law_every", "_law_letter", "_law_one", "_law_kind", "_law_word"] ["_law_box_here", "_law_n", "_law_many"] (defScope sLawCalmFolk) := fnScope_by (by decide +kernel)
theorem c__law_calm_folk (T : Tx K mg) : Cal P w K mg base 5 "_law_calm_folk" spLawCalmFolk [] := by
  refine calD T.d__law_calm_folk T.g__law_calm_folk scLawCalmFolk (fun _ _ _ _ _ _ us hl => match us, hl with | [_, _, _], _ => rfl) (fun vs H Q E h => ?_) (fun cdv A outer s H vs Q E hr h => ?_)
  · obtain ⟨_, _, _, _, rfl, _⟩ := h
    rfl
  · obtain ⟨B, L, n, m, rfl, hBx, n1, n3, hm, k⟩ := h
    have hu := hu_of hr
    refine ⟨_, (pss_cons (ps_set (i := 3) scLawCalmFolk.nd rfl (Or.inl rfl) (pe_lst pa_nil))
      (pss_cons (ps_set (i := 4) scLawCalmFolk.nd rfl (Or.inr rfl) (pe_listRg rfl rfl T.z_list (prg_1 rfl T.z_range (pv 1))))
      (pss_cons (ps_for PassesOwn.never rfl (pi_list (pe_c (c__law_letters T) hr (by decide) rfl (pa_cons (pv 0) (pa_cons (pv 2) pa_nil)))) (pg_name (i := 5) scLawCalmFolk.nd rfl (Or.inl rfl))
        (pss_cons (ps_set (i := 6) scLawCalmFolk.nd rfl (Or.inl rfl) (pe_c (c__law_person T) hr (by decide) rfl (pa_cons (pv 0) (pa_cons (pv 1) pa_nil))))
        (pss_cons (ps_set (i := 7) scLawCalmFolk.nd rfl (Or.inl rfl) (pe_c (c__law_take T) hr (by decide) rfl (pa_cons (pv 0) (pa_cons pe_int pa_nil))))
        (pss_cut (ps_if (pt_cmpR op_eq (pv 7) pe_int (nomark _))
          (pss_one (ps_set (i := 6) scLawCalmFolk.nd rfl (Or.inl rfl) (pe_lst (pa_cons (pv 4) (pa_cons (pe_lc (own := [("_law_word", 8)]) (g := gName 8) (tt := tYes)  (rfl) scLawCalmFolk.nd (pi_list (pv 4)) (blkOk_by (own := [("_law_word", 8)]) (N := ["_law_box_here", "_law_n", "_law_many", "_law_folk", "_law_every", "_law_letter", "_law_one", "_law_kind", "_law_word"]) (sc := defScope sLawCalmFolk) (by decide +kernel)) (fun _ _ _ _ _ => pg_name (i := 8) scLawCalmFolk.nd rfl (Or.inl rfl)) (fun _ _ _ _ _ => pts_nil) (fun _ _ _ _ _ => (pe_lst (pa_cons (pv 8) pa_nil)))) (pa_cons (pe_lc (own := [("_law_word", 8)]) (g := gName 8) (tt := tYes)  (rfl) scLawCalmFolk.nd (pi_list (pv 4)) (blkOk_by (own := [("_law_word", 8)]) (N := ["_law_box_here", "_law_n", "_law_many", "_law_folk", "_law_every", "_law_letter", "_law_one", "_law_kind", "_law_word"]) (sc := defScope sLawCalmFolk) (by decide +kernel)) (fun _ _ _ _ _ => pg_name (i := 8) scLawCalmFolk.nd rfl (Or.inl rfl)) (fun _ _ _ _ _ => pts_nil) (fun _ _ _ _ _ => (pe_lst (pa_cons (pv 8) pa_nil)))) pa_nil))))))
          pss_nil)
        (pss_cut (ps_if (pt_cmpR op_eq (pv 7) pe_int (nomark _))
          (pss_one (ps_set (i := 6) scLawCalmFolk.nd rfl (Or.inl rfl) (pe_lst (pa_cons (pv 4) (pa_cons (pe_lc (own := [("_law_word", 8)]) (g := gName 8) (tt := tYes)  (rfl) scLawCalmFolk.nd (pi_list (pv 4)) (blkOk_by (own := [("_law_word", 8)]) (N := ["_law_box_here", "_law_n", "_law_many", "_law_folk", "_law_every", "_law_letter", "_law_one", "_law_kind", "_law_word"]) (sc := defScope sLawCalmFolk) (by decide +kernel)) (fun _ _ _ _ _ => pg_name (i := 8) scLawCalmFolk.nd rfl (Or.inl rfl)) (fun _ _ _ _ _ => pts_nil) (fun _ _ _ _ _ => (pe_callTy (call_list_ofK (K := K) rfl) (by rfl) T.z_list (by decide +kernel) (pa_cons (pv 4) pa_nil)))) (pa_cons (pe_lc (own := [("_law_word", 8)]) (g := gName 8) (tt := tYes)  (rfl) scLawCalmFolk.nd (pi_list (pv 4)) (blkOk_by (own := [("_law_word", 8)]) (N := ["_law_box_here", "_law_n", "_law_many", "_law_folk", "_law_every", "_law_letter", "_law_one", "_law_kind", "_law_word"]) (sc := defScope sLawCalmFolk) (by decide +kernel)) (fun _ _ _ _ _ => pg_name (i := 8) scLawCalmFolk.nd rfl (Or.inl rfl)) (fun _ _ _ _ _ => pts_nil) (fun _ _ _ _ _ => (pe_callTy (call_list_ofK (K := K) rfl) (by rfl) T.z_list (by decide +kernel) (pa_cons (pv 4) pa_nil)))) pa_nil))))))
          pss_nil)
        (pss_cut (ps_if (PW.pt (pw_and (pt_cmpR op_eq (pv 7) pe_int (nomark _)) (pw_and1 (pt_cmpR (op_neDK (K := K) rfl hr.units) (pv 3) (pe_lst pa_nil) (nomark _)))))
          (pss_one (ps_set (i := 6) scLawCalmFolk.nd rfl (Or.inl rfl) (pe_slice sl_list (pe_ix (ix_listK (K := K) rfl) (pv 3) (pe_c (c__law_take T) hr (by decide) rfl (pa_cons (pv 0) (pa_cons (pe_callB (call_lenK (K := K) rfl) (by rfl) T.z_len PySem.boot_len (pa_cons (pv 3) pa_nil)) pa_nil))) (fun _ _ => rfl)) (po_some pe_int) po_none)))
          pss_nil)
        (pss_one (ps_expr (pe_bm PySem.F.plainAttrs_list PySem.F.slot_list_append PySem.F.type_list_append mt_append (pv 3) (pa_cons (pe_lst (pa_cons (pv 5) (pa_cons (pe_ix (ix_listK (K := K) rfl) (pv 6) pe_int (fun _ _ => rfl)) (pa_cons (pe_ix (ix_listK (K := K) rfl) (pv 6) pe_int (fun _ _ => rfl)) (pa_cons (pe_ix (ix_listK (K := K) rfl) (pv 6) pe_int (fun _ _ => rfl)) pa_nil))))) pa_nil))))))))))
      (pss_one (ps_ret (pv 3)))))), ?_⟩
    refine ⟨Nat.zero_le _, fun l hl => ?_⟩
    have nl := hBx.new hl
    have b0 := hBx.upd (o := .lst []) nl.1 nl.2
    refine ⟨_, rfl, _, rfl, RgOk.of_le (by omega) (by omega) (by omega) (by omega), fun q hq => ?_⟩
    rw [rgV0]
    have nq := b0.new hq
    have b1 := b0.upd (o := nlst (List.range n)) nq.1 nq.2
    have lq : l ≠ q := fun z => by rw [← z, upd_same] at hq; cases hq
    have hqH : H q = none := by
      rw [upd_ne lq.symm] at hq
      exact hq
    have E1 : SameX B H (L2.upd (L2.upd H l (.lst [])) q (nlst (List.range n))) := SameX.updn (SameX.updn SameX.refl hl) hqH
    have l1 : (L2.upd (L2.upd H l (.lst [])) q (nlst (List.range n))) l = some (.lst []) := by rw [upd_ne lq, upd_same]
    have q1 : (L2.upd (L2.upd H l (.lst [])) q (nlst (List.range n))) q = some (nlst (List.range n)) := upd_same
    generalize L2.upd (L2.upd H l (.lst [])) q (nlst (List.range n)) = H1 at b1 E1 l1 q1 ⊢
    refine ⟨_, rfl, _, rfl, B, L, m, rfl, b1, by omega, fun H2 fl e2 b2 hfl ⟨fs, hfs, hfm, hfd, hfa⟩ => ⟨fl, rfl, ⟨_, SqL.of hfs⟩, ?_⟩⟩
    have E2 := E1.trans e2
    have l2 := e2 _ _ nl.1 l1
    have q2 := e2 _ _ nq.1 q1
    have hflH := E1.free b1.some hfl
    have nfl := b1.new hfl
    have flL : fl ≠ l := fun z => by
      rw [z, l1] at hfl
      cases hfl
    refine for_it (walk_list (xs := fs.map lV)) (fun i σ H' => ∃ (E : List Ent) (z5 z6 z7 : Option V), σ = [some (.ref B), some (nV n), some (nV m), some (.ref l), some (.ref q), z5, z6, z7, none] ∧ SameX B H H' ∧ BoxAt H' B L ∧ FolksAt n H' l E ∧ H' q = some (nlst (List.range n)) ∧ H' fl = some (.lst (fs.map lV)) ∧ E.map (·.1) = fs.take i)
      ⟨[], none, none, none, rfl, E2, b2, ⟨[], l2, rfl, fun i p e h => by simp at h⟩, q2, hfs, by simp⟩ (fun i σ H' _ ⟨E, z5, z6, z7, h1, h2, h3, h4, h5, h6, h7⟩ => SqL.of h6) ?_ ?_
    · rintro i v σ H3 H4 hi ⟨E, z5, z6, z7, rfl, e3, b3, hF3, q3, fl3, hE3⟩ ⟨rfl, hv⟩
      obtain ⟨c, hc, rfl⟩ : ∃ c, fs[i]? = some c ∧ v = lV c := by
        rw [List.getElem?_map] at hv
        cases e : fs[i]? with
        | none => rw [e] at hv; cases hv
        | some c => rw [e] at hv; exact ⟨c, rfl, (Option.some.inj hv).symm⟩
      have hEl : E.length ≤ 4 := by
        have := congrArg List.length hE3
        rw [List.length_map, List.length_take] at this
        omega
      have hEabc : ∀ e ∈ E, e.1 ∈ abc := fun e he => by
        have : e.1 ∈ E.map (·.1) := List.mem_map_of_mem he
        rw [hE3] at this
        exact hfa _ (List.mem_of_mem_take this)
      refine ⟨_, rfl, _, rfl, B, L, n, rfl, b3, n1, n3, fun H5 p5 e5 b5 hp5 hP5 => ?_⟩
      refine ⟨_, rfl, B, L, 4, rfl, b5, by decide, by decide, fun H6 kd e6 b6 hkd => ?_⟩
      have e36 := e5.trans e6
      have box_l : ∀ {o : HO}, H4 l = some o → l ≠ B := fun h => nl.1
      have st : ∀ {H' : Hp}, SameX B H4 H' → BoxAt H' B L → FolksAt n H' l E ∧ H' q = some (nlst (List.range n)) ∧ H' fl = some (.lst (fs.map lV)) := fun e b => ⟨hF3.sameB e b3, e _ _ nq.1 q3, e _ _ nfl.1 fl3⟩
      have p6 : PersAt n H6 p5 := by
        obtain ⟨a, s2, r, A2, S2, h1, h2⟩ := hP5
        obtain ⟨ns, i0, x0, y0, hb, _⟩ := id b5
        refine ⟨a, s2, r, A2, S2, e6 _ _ (ne_of h1 hb ?_) h1, h2.sameB e6 b5.odd⟩
        intro z
        unfold boxO at z
        injection z with z
        injection z with _ z
        injection z with z
        cases z
      -- after each of the three tests: one is a person
      have base : ∃ Mid0 : L2.St → Hp → Prop, Mid0 = (fun σ H' => ∃ p, σ = [some (.ref B), some (nV n), some (nV m), some (.ref l), some (.ref q), some (lV c), some (.ref p), some (nV kd), none] ∧ SameX B H4 H' ∧ BoxAt H' B L ∧ PersAt n H' p) := ⟨_, rfl⟩
      obtain ⟨Mid0, hMid⟩ := base
      refine ⟨Mid0, ?_, ?_⟩
      · refine ⟨_, rfl, rfl, _, rfl, ?_⟩
        cases h1 : decide (nV kd = V.int 1) with
        | false =>
          refine iteF ?_
          rw [hMid]
          exact ⟨p5, rfl, e36, b6, p6⟩
        | true =>
          have q6 := (st e36 b6).2.1
          refine iteT ⟨_, rfl, rd_ids n3 q6 fun H7 D7 e7 hD7 r7 => rd_ids n3 (e7 _ _ q6) fun H8 D8 e8 hD8 r8 => ⟨by show 3 ≤ sizeLine; decide, fun p hp => ?_⟩⟩
          rw [hMid]
          have b8 := (b6.same e7).same e8
          have np := b8.new hp
          have e9 : Same H8 (L2.upd H8 p (.lst [.ref q, .ref D7, .ref D8])) := Same.upd (Same.refl _) hp
          refine ⟨p, rfl, e36.trans (SameX.of (e7.trans (e8.trans e9))), b8.upd np.1 np.2, q, D7, D8, List.range n, _, upd_same, e9 _ _ (e8 _ _ (e7 _ _ q6)), (r7.same e8).same e9, ?_, tri_id n1 n3⟩
          rw [idRows]
          exact r8.same e9
      intro σ1 H7 hM7
      rw [hMid] at hM7
      obtain ⟨p7, rfl, e7, b7, hp7⟩ := hM7
      refine ⟨Mid0, ?_, ?_⟩
      · refine ⟨_, rfl, rfl, _, rfl, ?_⟩
        cases h1 : decide (nV kd = V.int 2) with
        | false =>
          refine iteF ?_
          rw [hMid]
          exact ⟨p7, rfl, e7, b7, hp7⟩
        | true =>
          have q6 := (st e7 b7).2.1
          refine iteT ⟨_, rfl, rd_full n3 q6 fun H8 D7 e8 hD7 r7 => rd_full n3 (e8 _ _ q6) fun H9 D8 e9' hD8 r8 => ⟨by show 3 ≤ sizeLine; decide, fun p hp => ?_⟩⟩
          rw [hMid]
          have b8 := (b7.same e8).same e9'
          have np := b8.new hp
          have e9 : Same H9 (L2.upd H9 p (.lst [.ref q, .ref D7, .ref D8])) := Same.upd (Same.refl _) hp
          refine ⟨p, rfl, e7.trans (SameX.of (e8.trans (e9'.trans e9))), b8.upd np.1 np.2, q, D7, D8, List.range n, _, upd_same, e9 _ _ (e9' _ _ (e8 _ _ q6)), (r7.same e9').same e9, ?_, tri_full n1 n3⟩
          rw [fullRows]
          exact r8.same e9
      intro σ2 H8 hM8
      rw [hMid] at hM8
      obtain ⟨p8, rfl, e8, b8, hp8⟩ := hM8
      refine ⟨Mid0, ?_, ?_⟩
      · refine ⟨_, rfl, rfl, _, rfl, ?_⟩
        cases h1 : decide (nV kd = V.int 3) with
        | false =>
          refine iteF (iteF ?_)
          rw [hMid]
          exact ⟨p8, rfl, e8, b8, hp8⟩
        | true =>
          obtain ⟨hF8, q8, fl8⟩ := st e8 b8
          obtain ⟨ps, hps, hpl, hpe⟩ := id hF8
          refine iteT ⟨_, rfl, Nat.zero_le _, fun nl0 hnl0 => ?_⟩
          have e9 : Same H8 (L2.upd H8 nl0 (.lst [])) := Same.upd (Same.refl _) hnl0
          have nn := b8.new hnl0
          have b9 := b8.same e9
          refine ⟨.list (E.map (dE n)), .list [], .lst (SqL.of (e9 _ _ hps)) (dpEs hpl fun i p e x y => (hpe i p e x y).same e9), .lst (SqL.of upd_same) .nil, shEs hEabc, sh_nil, _, rfl, ?_⟩
          rw [eqv_nil]
          cases hemp : (E.map (dE n)).isEmpty with
          | true =>
            refine iteF ?_
            rw [hMid]
            refine ⟨p8, rfl, e8.trans (SameX.of e9), b9, ?_⟩
            obtain ⟨a, s2, r, A2, S2, h1, h2⟩ := hp8
            exact ⟨a, s2, r, A2, S2, e9 _ _ h1, h2.same e9⟩
          | false =>
            have hE0 : 1 ≤ E.length := by
              cases E with
              | nil => cases hemp
              | cons x y => simp
            refine iteT ⟨_, rfl, _, rfl, _, rfl, l, _, rfl, .inl (SqL.of (e9 _ _ hps)), B, L, E.length, by rw [List.length_map, hpl]; rfl, b9, hE0, by omega, fun H10 j e10 b10 hj => ?_⟩
            have F10 := (hF8.same e9).sameB e10 b9
            obtain ⟨ps2, hps2, hpl2, hpe2⟩ := F10
            have hjp : j < ps2.length := by rw [hpl2]; exact hj
            obtain ⟨a, s2, r, hent, htri⟩ := hpe2 j ps2[j] E[j] (List.getElem?_eq_getElem hjp) (List.getElem?_eq_getElem hj)
            refine ⟨l, _, _, .ref ps2[j], rfl, rfl, SqL.of hps2, atI_nat (by rw [List.getElem?_map, List.getElem?_eq_getElem hjp]; rfl), _, rfl, ps2[j], _, rfl, SqL.of hent, fun p hp => ?_⟩
            rw [hMid]
            have e11 : Same H10 (L2.upd H10 p (.lst (cutV [lV E[j].1, .ref a, .ref s2, .ref r] (some 1) none))) := Same.upd (Same.refl _) hp
            have np := b10.new hp
            refine ⟨p, rfl, e8.trans ((SameX.of e9).trans (e10.trans (SameX.of e11))), b10.upd np.1 np.2, a, s2, r, E[j].2.1, E[j].2.2, ?_, htri.same e11⟩
            rw [upd_same]
            rfl
      intro σ3 H9 hM9
      rw [hMid] at hM9
      obtain ⟨p9, rfl, e9, b9, a, s2, r, A2, S2, hp9, htri⟩ := hM9
      obtain ⟨⟨ps, hps, hpl, hpe⟩, q9, fl9⟩ := st e9 b9
      refine ⟨_, rfl, .inl ⟨rfl, _, SqL.of hps⟩, _, rfl, _, rfl, p9, _, _, _, rfl, rfl, SqL.of hp9, rfl, _, rfl, p9, _, _, _, rfl, rfl, SqL.of hp9, rfl, _, rfl, p9, _, _, _, rfl, rfl, SqL.of hp9, rfl, by show 4 ≤ sizeLine; decide, fun pe hpe2 => ?_⟩
      have e10 : Same H9 (L2.upd H9 pe (.lst [lV c, .ref a, .ref s2, .ref r])) := Same.upd (Same.refl _) hpe2
      have npe := b9.new hpe2
      have b10 := b9.upd (o := .lst [lV c, .ref a, .ref s2, .ref r]) npe.1 npe.2
      refine ⟨l, _, _, rfl, rfl, e10 _ _ hps, small1000 (by rw [List.length_map, hpl]; omega), E ++ [(c, A2, S2)], some (lV c), some (.ref p9), some (nV kd), rfl, ?_, b10.upd nl.1 nl.2, ?_, ?_, ?_, ?_⟩
      · exact SameX.updn ((e3.trans e9).trans (SameX.of e10)) hl
      · have lpe : l ≠ pe := ne_of_none hps hpe2
        have l10 := e10 _ _ hps
        have hpsE : ∀ p ∈ ps, ∃ c' x, (L2.upd H9 pe (.lst [lV c, .ref a, .ref s2, .ref r])) p = some (.lst (lV c' :: x)) := fun p hp => by
          obtain ⟨i2, hi2⟩ := List.mem_iff_getElem?.mp hp
          have hil : i2 < E.length := by
            rw [← hpl]
            exact (List.getElem?_eq_some_iff.mp hi2).1
          obtain ⟨a', s', r', h1, _⟩ := hpe i2 p E[i2] hi2 (List.getElem?_eq_getElem hil)
          exact ⟨E[i2].1, [.ref a', .ref s', .ref r'], e10 _ _ h1⟩
        have entUp : ∀ {p : Addr} {e : Ent}, EntAt n (L2.upd H9 pe (.lst [lV c, .ref a, .ref s2, .ref r])) p e → EntAt n (L2.upd (L2.upd H9 pe (.lst [lV c, .ref a, .ref s2, .ref r])) l (.lst (ps.map V.ref ++ [V.ref pe]))) p e := fun {p e} h => by
          obtain ⟨a', s', r', h1, h2⟩ := h
          refine ⟨a', s', r', ?_, tri_upd l10 hpsE h2⟩
          rw [upd_ne (ne_of h1 l10 ?_)]
          · exact h1
          · intro z
            injection z with z
            cases ps with
            | nil => cases z
            | cons x y => cases z
        refine ⟨ps ++ [pe], by rw [upd_same]; simp, by simp [hpl], fun i2 p e x y => ?_⟩
        by_cases hi2 : i2 < ps.length
        · rw [List.getElem?_append_left hi2] at x
          rw [List.getElem?_append_left (by rw [← hpl]; exact hi2)] at y
          exact entUp ((hpe i2 p e x y).same e10)
        · rw [List.getElem?_append_right (by omega)] at x
          rw [List.getElem?_append_right (by rw [← hpl]; omega)] at y
          have h0 : i2 - ps.length = 0 := by
            have := (List.getElem?_eq_some_iff.mp x).1
            simp at this
            omega
          rw [h0] at x
          rw [show i2 - E.length = 0 by rw [← hpl]; exact h0] at y
          cases x
          cases y
          exact entUp ⟨a, s2, r, upd_same, htri.same e10⟩
      · rw [upd_ne lq.symm]
        exact e10 _ _ q9
      · rw [upd_ne flL]
        exact e10 _ _ fl9
      · rw [List.map_append, hE3, List.take_add_one, hc]
        rfl
    · rintro σ H3 ⟨E, z5, z6, z7, rfl, e3, b3, hF3, q3, fl3, hE3⟩
      rw [List.length_map, List.take_length] at hE3
      refine ⟨_, rfl, k _ l e3 b3 hl ⟨E, hF3, ?_, ?_, ?_⟩⟩
      · have := congrArg List.length hE3
        rw [List.length_map] at this
        omega
      · rw [hE3]
        exact hfd
      · intro e he
        have : e.1 ∈ E.map (·.1) := List.mem_map_of_mem he
        rw [hE3] at this
        exact hfa _ this
end
end Mz
namespace Mz
open PySem PySem.Spec PyProof.Rows L2 He C8
/-! ### masks of rows -/
theorem filt_mask {n : Nat} (n3 : n ≤ 3) (p : Nat → Bool) : maskL ((List.range n).filter p) < 2 ^ n ∧ Mu.bitsL (maskL ((List.range n).filter p)) = (List.range n).filter p := by
  rcases (show n = 0 ∨ n = 1 ∨ n = 2 ∨ n = 3 by omega) with h | h | h | h
  · subst h
    exact ⟨by show maskL [] < 1; decide, by show Mu.bitsL (maskL []) = []; decide⟩
  · subst h
    have e : (List.range 1).filter p = if p 0 then [0] else [] := by
      show List.filter p [0] = _
      rw [List.filter_cons]
      rfl
    rw [e]
    cases p 0 <;> decide
  · subst h
    have e : (List.range 2).filter p = (if p 0 then [0] else []) ++ (if p 1 then [1] else []) := by
      show List.filter p [0, 1] = _
      rw [List.filter_cons, List.filter_cons]
      cases p 0 <;> cases p 1 <;> rfl
    rw [e]
    cases p 0 <;> cases p 1 <;> decide
  · subst h
    have e : (List.range 3).filter p = (if p 0 then [0] else []) ++ (if p 1 then [1] else []) ++ (if p 2 then [2] else []) := by
      show List.filter p [0, 1, 2] = _
      rw [List.filter_cons, List.filter_cons, List.filter_cons]
      cases p 0 <;> cases p 1 <;> cases p 2 <;> rfl
    rw [e]
    cases p 0 <;> cases p 1 <;> cases p 2 <;> decide
def mkM (n : Nat) (A : List Nat) (S : List (List Nat)) : List Nat := (List.range n).map fun i => maskL (pSaid n A S i)
theorem mkM_rel {n : Nat} (n3 : n ≤ 3) (A : List Nat) (S : List (List Nat)) : Mu.Rel n (mkM n A S) := by
  refine ⟨by unfold mkM; simp, fun m hm => ?_⟩
  unfold mkM at hm
  obtain ⟨i, _, rfl⟩ := List.mem_map.mp hm
  exact (filt_mask n3 _).1
theorem mkM_rows {n : Nat} (n3 : n ≤ 3) (A : List Nat) (S : List (List Nat)) : (mkM n A S).map Mu.bitsL = rowsOf n A S := by
  unfold mkM rowsOf
  rw [List.map_map]
  apply List.map_congr_left
  intro i _
  exact (filt_mask n3 _).2
/-- the tables of the entries -/
def tbE (n : Nat) (E : List Ent) (c : Nat) : List Nat := match E.lookup c with
  | some (A, S) => mkM n A S
  | none => []
theorem look_ent {E : List Ent} (hd : (E.map (·.1)).Nodup) {e : Ent} (he : e ∈ E) : E.lookup e.1 = some e.2 := by
  obtain ⟨a, h1, h2⟩ := lookup_some (F := E) (c := e.1) (List.mem_map_of_mem he)
  have : a = e.2 := by
    induction E with
    | nil => cases he
    | cons x E ih =>
      rw [List.map_cons, List.nodup_cons] at hd
      rcases List.mem_cons.mp he with h | h <;> rcases List.mem_cons.mp h2 with h' | h'
      · rw [← h] at h'
        rw [← h']
      · exact absurd (h ▸ List.mem_map_of_mem (f := (·.1)) h') hd.1
      · have : e.1 ∈ E.map (·.1) := List.mem_map_of_mem h
        rw [← h'] at hd
        exact absurd this hd.1
      · obtain ⟨b, q1, q2⟩ := lookup_some (F := E) (c := e.1) (List.mem_map_of_mem h)
        have hne : e.1 ≠ x.1 := fun z => hd.1 (z ▸ List.mem_map_of_mem (f := (·.1)) h)
        have q3 : E.lookup e.1 = some a := by
          rw [List.lookup_cons, beq_eq_false_iff_ne.mpr hne] at h1
          exact h1
        exact ih hd.2 h q3 h'
  rw [h1, this]
theorem tbE_at {n : Nat} {E : List Ent} (hd : (E.map (·.1)).Nodup) {e : Ent} (he : e ∈ E) : tbE n E e.1 = mkM n e.2.1 e.2.2 := by
  unfold tbE
  rw [look_ent hd he]
/-- the law's own dict -/
def OwnAt (n : Nat) (H : Hp) (d : Addr) (tb : Nat → List Nat) (G : List (Nat × Addr)) : Prop := H d = some (.dK (kvF V.ref G)) ∧ ∀ q ∈ G, RowsAt H q.2 ((tb q.1).map Mu.bitsL)
structure GOk (n : Nat) (tb : Nat → List Nat) (G : List (Nat × Addr)) : Prop where
  n1 : 1 ≤ n
  n3 : n ≤ 3
  nd : (G.map (·.1)).Nodup
  abc : ∀ c ∈ G.map (·.1), c ∈ abc
  few : G.length ≤ 4
  rel : ∀ c ∈ G.map (·.1), Mu.Rel n (tb c)
theorem OwnAt.same {n : Nat} {H H' : Hp} {d : Addr} {tb : Nat → List Nat} {G : List (Nat × Addr)} (h : OwnAt n H d tb G) (e : Same H H') : OwnAt n H' d tb G := ⟨e _ _ h.1, fun q hq => (h.2 q hq).same e⟩
theorem OwnAt.sameB {n : Nat} {B L : Addr} {H H' : Hp} {d : Addr} {tb : Nat → List Nat} {G : List (Nat × Addr)} (h : OwnAt n H d tb G) (e : SameX B H H') (b : BoxAt H B L) : OwnAt n H' d tb G := by
  obtain ⟨ns, i, x, y, hb, _⟩ := id b
  exact ⟨e _ _ (ne_of h.1 hb fun z => by unfold boxO at z; cases z) h.1, fun q hq => (h.2 q hq).sameB e b.odd⟩
def spLawOwn : Sp := fun vs H Q _ => ∃ (l : Addr) (n : Nat) (E : List Ent), vs = [.ref l] ∧ FolksAt n H l E ∧ 1 ≤ n ∧ n ≤ 3 ∧ E.length ≤ 4 ∧ (E.map (·.1)).Nodup ∧ (∀ e ∈ E, e.1 ∈ abc) ∧
  ∀ H' d G, Same H H' → H d = none → OwnAt n H' d (tbE n E) G → G.map (·.1) = abc.filter (fun c => decide (c ∈ E.map (·.1))) → Q (.ref d) H'
def spLawRow : Sp := fun vs H Q _ => ∃ (B L d n : Nat) (tb : Nat → List Nat) (G : List (Nat × Addr)), vs = [.ref B, .ref d, nV 6] ∧ BoxAt H B L ∧ OwnAt n H d tb G ∧ GOk n tb G ∧ ∀ H' (R : List Nat), SameX B H H' → BoxAt H' B L → R.length ≤ 6 → (∀ c ∈ R, c ∈ G.map (·.1)) → Q (.str (SX.S R)) H'
def spLawJoin : Sp := fun vs H Q _ => ∃ (a b n : Nat) (A B : List Nat), vs = [.ref a, .ref b] ∧ RowsAt H a (A.map Mu.bitsL) ∧ RowsAt H b (B.map Mu.bitsL) ∧ n ≤ 3 ∧ Mu.Rel n A ∧ Mu.Rel n B ∧ ∀ H' l, Same H H' → H l = none → RowsAt H' l ((Mu.prod A B).map Mu.bitsL) → Q (.ref l) H'
def spLawThrough : Sp := fun vs H Q _ => ∃ (d n : Nat) (tb : Nat → List Nat) (G : List (Nat × Addr)) (R : List Nat), vs = [.ref d, nV n, .str (SX.S R)] ∧ OwnAt n H d tb G ∧ GOk n tb G ∧ (∀ c ∈ R, c ∈ G.map (·.1)) ∧ ∀ H' l, Same H H' → RowsAt H' l ((Mu.after tb (Mu.idm n) R).map Mu.bitsL) → Q (.ref l) H'
def dK1 (c : Nat) : PyData := .str (SX.S [c])
theorem dpKs {K : PySem.W.Frag} {H : Hp} : ∀ cs : List Nat, DpAll K H (cs.map lV) (cs.map dK1)
  | [] => .nil
  | c :: cs => .cons (.str _) (dpKs cs)
theorem shKs : ∀ {cs : List Nat}, (∀ c ∈ cs, c ∈ abc) → SeqAt.shaped (.list (cs.map dK1)) = true := by
  intro cs h
  have hs : ∀ c ∈ abc, PyData.strOk (SX.S [c]) = true := by decide +kernel
  have h1 : PyData.canLayAll0 (cs.map dK1) = true := by
    induction cs with
    | nil => simp [PyData.canLayAll0]
    | cons e E ih =>
      rw [List.map_cons, PyData.canLayAll0, ih fun x hx => h x (List.mem_cons_of_mem _ hx)]
      unfold dK1
      simp only [PyData.canLay0, hs e (h e (List.mem_cons_self ..)), Bool.and_self]
  have h2 : PyData.depthAll (cs.map dK1) ≤ 1 := by
    clear h1 h
    induction cs with
    | nil => simp [PyData.depthAll]
    | cons e E ih =>
      rw [List.map_cons, PyData.depthAll]
      have : (dK1 e).depth ≤ 1 := by unfold dK1; simp [PyData.depth]
      omega
  exact sh_of (by simp only [PyData.canLay0]; exact h1) (by simp only [PyData.depth]; omega)
section
variable {P : Program} {w : World} {K : PySem.W.Frag} {mg : Str → Option Value} {base : Heap}
theorem scLawOwn : FnScope ["_law_folk", "_law_own_here", "_law_letter", "_law_one"] ["_law_folk"] (defScope sLawOwn) := fnScope_by (by decide +kernel)
theorem c__law_own (T : Tx K mg) : Cal P w K mg base 1 "_law_own" spLawOwn [] := by
  refine calD T.d__law_own T.g__law_own scLawOwn (fun _ _ _ _ _ _ us hl => match us, hl with | [_], _ => rfl) (fun vs H Q E h => ?_) (fun cdv A outer s H vs Q E hr h => ?_)
  · obtain ⟨_, _, _, rfl, _⟩ := h
    rfl
  · obtain ⟨l, n, E, rfl, hF, n1, n3, hE4, hEd, hEa, k⟩ := h
    have hu := hu_of hr
    refine ⟨_, (pss_cons (ps_set (i := 1) scLawOwn.nd rfl (Or.inl rfl) pe_dnewK)
      (pss_cons (ps_for PassesOwn.never rfl (pi_str pe_str) (pg_name (i := 2) scLawOwn.nd rfl (Or.inl rfl))
        (pss_one (ps_for PassesOwn.never rfl (pi_list (pv 0)) (pg_name (i := 3) scLawOwn.nd rfl (Or.inl rfl))
          (pss_one (ps_if (pt_cmpR op_eq (pe_ix (ix_listK (K := K) rfl) (pv 3) pe_int (fun _ _ => rfl)) (pv 2) (nomark _))
            (pss_one (ps_dput hu (pv 1) (pv 2) (pe_ix (ix_listK (K := K) rfl) (pv 3) pe_int (fun _ _ => rfl)) rfl))
            pss_nil)))))
      (pss_one (ps_ret (pv 1))))), ?_⟩
    refine fun d hd => ?_
    have ed : Same H (L2.upd H d (.dK [])) := Same.upd (Same.refl _) hd
    rw [abc_txt]
    refine ⟨_, rfl, for_it (walk_str (z := SX.S abc)) (fun i σ H' => ∃ (G : List (Nat × Addr)) (z2 z3 : Option V), σ = [some (.ref l), some (.ref d), z2, z3] ∧ Same H H' ∧ H' d = some (.dK (kvF V.ref G)) ∧ G.map (·.1) = (abc.take i).filter (fun c => decide (c ∈ E.map (·.1))) ∧ ∀ q ∈ G, RowsAt H' q.2 ((tbE n E q.1).map Mu.bitsL))
      ⟨[], none, none, rfl, ed, upd_same, by simp, by simp⟩ (fun _ _ _ _ _ => trivial) ?_ ?_⟩
    · rintro i v σ H1 H2 hi ⟨G, z2, z3, rfl, e1, hd1, hG, hGr⟩ ⟨rfl, c, hc, rfl⟩
      have hci := S_get hc
      have hi26 : i < abc.length := by rw [S_size] at hi; exact hi
      have hcG : c ∉ G.map (·.1) := by
        rw [hG]
        intro z
        have h1 := (List.mem_filter.mp z).1
        obtain ⟨j, hj⟩ := List.mem_iff_getElem?.mp h1
        have hj1 : j < i := by
          have := (List.getElem?_eq_some_iff.mp hj).1
          rw [List.length_take] at this
          omega
        rw [List.getElem?_take_of_lt hj1] at hj
        have hjl : j < abc.length := by omega
        have e1 := List.getElem?_eq_some_iff.mp hj |>.2
        have e2 := List.getElem?_eq_some_iff.mp hci |>.2
        have := (List.getElem_inj (h₀ := hjl) (h₁ := hi26) abc_nodup).mp (e1.trans e2.symm)
        omega
      obtain ⟨ps, hps, hpl, hpe⟩ := id (hF.same e1)
      refine ⟨_, rfl, l, rfl, ⟨_, SqL.of hps⟩, for_it (walk_list (xs := ps.map V.ref)) (fun j σ H' => ∃ (X : List (Nat × Addr)) (z3 : Option V), σ = [some (.ref l), some (.ref d), some (lV c), z3] ∧ Same H H' ∧ H' d = some (.dK (kvF V.ref (G ++ X))) ∧ X.map (·.1) = (if c ∈ (E.take j).map (·.1) then [c] else []) ∧ ∀ q ∈ G ++ X, RowsAt H' q.2 ((tbE n E q.1).map Mu.bitsL))
        ⟨[], _, rfl, e1, by rw [List.append_nil]; exact hd1, by simp, by rw [List.append_nil]; exact hGr⟩ (fun j σ H' _ ⟨X, z3, h1, h2, h3, h4, h5⟩ => SqL.of ?_) ?_ ?_⟩
      · obtain ⟨ps2, q1, q2, q3⟩ := hF.same h2
        obtain ⟨ps0, r1, r2, r3⟩ := hF
        rw [e1 _ _ r1] at hps
        rw [h2 _ _ r1]
        exact hps
      · rintro j v σ H3 H4 hj ⟨X, z3', rfl, e3, hd3, hX, hXr⟩ ⟨rfl, hv⟩
        rw [List.length_map] at hj
        have hjE : j < E.length := by omega
        rw [List.getElem?_map, List.getElem?_eq_getElem hj] at hv
        cases hv
        have ps3 : ∃ p, ps[j]? = some p ∧ EntAt n H4 p E[j] := by
          obtain ⟨ps0, r1, r2, r3⟩ := hF
          have hpp : ps = ps0 := by
            rw [e1 _ _ r1] at hps
            have h1 := Option.some.inj hps
            injection h1 with h1
            exact ((List.map_inj_right (fun x y h => by injection h)).mp h1).symm
          refine ⟨ps[j], List.getElem?_eq_getElem hj, (r3 j ps[j] E[j] ?_ (List.getElem?_eq_getElem hjE)).same e3⟩
          rw [← hpp]
          exact List.getElem?_eq_getElem hj
        obtain ⟨p, hp, a, s1, r, hent, h1, h2, h3, tri⟩ := ps3
        have hpj : ps[j] = p := by
          rw [List.getElem?_eq_getElem hj] at hp
          exact Option.some.inj hp
        rw [hpj]
        have hEd' : ∀ {c' : Nat}, c' = E[j].1 → c' ∉ (E.take j).map (·.1) := fun {c'} e z => by
          rw [e] at z
          have hs : (E.map (·.1)) = (E.take j).map (·.1) ++ (E.drop j).map (·.1) := by rw [← List.map_append, List.take_append_drop]
          have hmem : E[j].1 ∈ (E.drop j).map (·.1) := by
            rw [List.drop_eq_getElem_cons hjE, List.map_cons]
            exact List.mem_cons_self ..
          rw [hs] at hEd
          exact (List.nodup_append.mp hEd).2.2 _ z _ hmem rfl
        have htk : (E.take (j + 1)).map (·.1) = (E.take j).map (·.1) ++ [E[j].1] := by
          rw [List.take_add_one, List.getElem?_eq_getElem hjE, List.map_append]
          rfl
        refine ⟨_, rfl, p, _, _, _, rfl, rfl, SqL.of hent, rfl, _, rfl, rfl, _, rfl, ?_⟩
        by_cases hec : E[j].1 = c
        · rw [decide_eq_true (show lV E[j].1 = V.str ⟨#[c]⟩ by rw [hec])]
          have hX0 : X = [] := by
            rw [if_neg (hEd' hec.symm)] at hX
            cases X with
            | nil => rfl
            | cons x y => cases hX
          subst hX0
          rw [List.append_nil] at hd3 hXr
          refine iteT ⟨_, rfl, p, _, _, _, rfl, rfl, SqL.of hent, rfl, _, rfl, _, rfl, d, _, rfl, DPut.k (k := lK c) hd3 (small1000 ?_), [(c, r)], _, rfl, ?_, ?_, ?_, ?_⟩
          · unfold kvF
            rw [List.length_map]
            have := congrArg List.length hG
            rw [List.length_map] at this
            have h26 := List.length_filter_le (fun c => decide (c ∈ E.map (·.1))) (abc.take i)
            rw [List.length_take] at h26
            have : abc.length = 26 := by decide
            omega
          · exact Same.updn e3 hd
          · rw [upd_same, putK_new _ (by rw [valV_kvF, lookup_none hcG]; rfl)]
            unfold kvF
            rw [List.map_append]
            rfl
          · rw [if_pos (by rw [htk, hec]; simp)]
            rfl
          · have up : ∀ {x : Addr} {R : List (List Nat)}, RowsAt H4 x R → RowsAt (L2.upd H4 d (.dK (putK (kvF V.ref G) (lK c) (V.ref r)))) x R := fun {x R} hh => by
              obtain ⟨ls, q1, q2⟩ := hh
              refine ⟨ls, by rw [upd_ne (ne_of q1 hd3 (fun z => by cases z))]; exact q1, q2.upd (Pts.notin q2 hd3 fun u hu z => ?_)⟩
              obtain ⟨rr, _, rfl⟩ := List.mem_map.mp hu
              unfold nlst at z
              cases z
            intro q hq
            rcases List.mem_append.mp hq with h | h
            · exact up (hXr q h)
            · rw [List.mem_singleton.mp h]
              show RowsAt _ r ((tbE n E c).map Mu.bitsL)
              have ht : (tbE n E c).map Mu.bitsL = rowsOf n E[j].2.1 E[j].2.2 := by
                rw [← hec, tbE_at hEd (List.getElem_mem hjE), mkM_rows n3]
              rw [ht]
              exact up h3
        · rw [decide_eq_false (show ¬ lV E[j].1 = V.str ⟨#[c]⟩ by
            intro z
            injection z with z
            exact hec (by have := SX.S_inj z; simpa using this))]
          refine iteF ⟨X, _, rfl, e3, hd3, ?_, hXr⟩
          rw [hX, htk]
          by_cases hm : c ∈ (E.take j).map (·.1)
          · rw [if_pos hm, if_pos (List.mem_append_left _ hm)]
          · rw [if_neg hm, if_neg]
            intro z
            rcases List.mem_append.mp z with z | z
            · exact hm z
            · exact hec (List.mem_singleton.mp z).symm
      · rintro σ H3 ⟨X, z3', rfl, e3, hd3, hX, hXr⟩
        rw [List.length_map, hpl, List.take_length] at hX
        refine ⟨G ++ X, _, _, rfl, e3, hd3, ?_, hXr⟩
        rw [List.map_append, hG, hX, List.take_add_one, hci, List.filter_append]
        congr 1
        show _ = List.filter _ [c]
        rw [List.filter_cons]
        by_cases hm : c ∈ E.map (·.1)
        · rw [if_pos hm, if_pos (decide_eq_true hm)]
          rfl
        · rw [if_neg hm, if_neg (by rw [decide_eq_false hm]; exact Bool.false_ne_true)]
          rfl
    · rintro σ H1 ⟨G, z2, z3, rfl, e1, hd1, hG, hGr⟩
      rw [S_size, List.take_length] at hG
      exact ⟨_, rfl, k _ d G e1 hd ⟨hd1, hGr⟩ hG⟩
end
end Mz
namespace Mz
open PySem PySem.Spec PyProof.Rows L2 He C8
def gathP (last : List (List Nat)) (o : List Nat) (row : List Nat) : List Nat := row.foldl (fun o mid => o ++ (last.getD mid []).filter fun x => decide (x ∉ o)) o
theorem gathP_snoc (last : List (List Nat)) (o row : List Nat) (m : Nat) : gathP last o (row ++ [m]) = gathP last o row ++ (last.getD m []).filter fun x => decide (x ∉ gathP last o row) := by
  unfold gathP
  rw [List.foldl_append]
  rfl
theorem take_get {α : Type} {l : List α} {i : Nat} {x : α} (h : l[i]? = some x) : l.take (i + 1) = l.take i ++ [x] := by
  rw [List.take_add_one, h]
  rfl
section
variable {P : Program} {w : World} {K : PySem.W.Frag} {mg : Str → Option Value} {base : Heap}
theorem scLawJoin : FnScope ["_law_first", "_law_last", "_law_found", "_law_row_here", "_law_outs_here", "_law_mid", "_law_word", "_law_out"] ["_law_first", "_law_last"] (defScope sLawJoin) := fnScope_by (by decide +kernel)
theorem c__law_join (T : Tx K mg) : Cal P w K mg base 1 "_law_join" spLawJoin [] := by
  refine calD T.d__law_join T.g__law_join scLawJoin (fun _ _ _ _ _ _ us hl => match us, hl with | [_, _], _ => rfl) (fun vs H Q E h => ?_) (fun cdv A outer s H vs Q E hr h => ?_)
  · obtain ⟨_, _, _, _, _, rfl, _⟩ := h
    rfl
  · obtain ⟨a, b, n, A, B, rfl, hA, hB, n3, rA, rB, k⟩ := h
    have hu := hu_of hr
    refine ⟨_, (pss_cons (ps_set (i := 2) scLawJoin.nd rfl (Or.inl rfl) (pe_lst pa_nil))
      (pss_cons (ps_for PassesOwn.never rfl (pi_list (pv 0)) (pg_name (i := 3) scLawJoin.nd rfl (Or.inl rfl))
        (pss_cons (ps_set (i := 4) scLawJoin.nd rfl (Or.inr rfl) (pe_lst pa_nil))
        (pss_cons (ps_for PassesOwn.never rfl (pi_list (pv 3)) (pg_name (i := 5) scLawJoin.nd rfl (Or.inl rfl))
          (pss_one (ps_set (i := 4) scLawJoin.nd rfl (Or.inr rfl) (pe_op op_cat (pv 4) (pe_lc (own := [("_law_out", 7)]) (g := gName 7)  (rfl) scLawJoin.nd (pi_list (pe_ix (ix_listK (K := K) rfl) (pv 1) (pv 5) (fun _ _ => rfl))) (blkOk_by (own := [("_law_out", 7)]) (N := ["_law_first", "_law_last", "_law_found", "_law_row_here", "_law_outs_here", "_law_mid", "_law_word", "_law_out"]) (sc := defScope sLawJoin) (by decide +kernel)) (fun _ _ _ _ _ => pg_name (i := 7) scLawJoin.nd rfl (Or.inl rfl)) (fun _ _ _ _ _ => (pts_one (pt_cmpR (op_notInK (K := K) rfl) (pv 7) (pv 4) (by rfl)))) (fun _ _ _ _ _ => (pv 7)))))))
        (pss_one (ps_expr (pe_bm PySem.F.plainAttrs_list PySem.F.slot_list_append PySem.F.type_list_append mt_append (pv 2) (pa_cons (pe_lc (own := [("_law_word", 6)]) (g := gName 6)  (rfl) scLawJoin.nd (pi_range1 rfl T.z_range (pa_cons (pe_callB (call_lenK (K := K) rfl) (by rfl) T.z_len PySem.boot_len (pa_cons (pv 1) pa_nil)) pa_nil)) (blkOk_by (own := [("_law_word", 6)]) (N := ["_law_first", "_law_last", "_law_found", "_law_row_here", "_law_outs_here", "_law_mid", "_law_word", "_law_out"]) (sc := defScope sLawJoin) (by decide +kernel)) (fun _ _ _ _ _ => pg_name (i := 6) scLawJoin.nd rfl (Or.inl rfl)) (fun _ _ _ _ _ => (pts_one (pt_cmpR (op_inK (K := K) rfl) (pv 6) (pv 4) (by rfl)))) (fun _ _ _ _ _ => (pv 6))) pa_nil)))))))
      (pss_one (ps_ret (pv 2))))), ?_⟩
    refine ⟨Nat.zero_le _, fun D hD => ?_⟩
    obtain ⟨la, hla, hpa⟩ := id hA
    obtain ⟨lb, hlb, hpb⟩ := id hB
    have hlal : la.length = n := by rw [hpa.1, List.length_map, List.length_map, rA.1]
    have hlbl : lb.length = n := by rw [hpb.1, List.length_map, List.length_map, rB.1]
    have m8 : ∀ {m : Nat}, m < 2 ^ n → m < 8 := fun h => Nat.lt_of_lt_of_le h (by rcases (show n = 0 ∨ n = 1 ∨ n = 2 ∨ n = 3 by omega) with h | h | h | h <;> (subst h; decide))
    have eD : Same H (L2.upd H D (.lst [])) := Same.upd (Same.refl _) hD
    refine ⟨_, rfl, a, rfl, ⟨_, SqL.of (eD _ _ hla)⟩, for_it (walk_list (xs := la.map V.ref)) (fun i σ H' => ∃ (ls : List Addr) (z3 z4 z5 z6 z7 : Option V), σ = [some (.ref a), some (.ref b), some (.ref D), z3, z4, z5, z6, z7] ∧ Same H H' ∧ H' D = some (.lst (ls.map V.ref)) ∧ Pts H' ls (((A.take i).map fun m => Mu.joinRow (B.map Mu.bitsL) (Mu.bitsL m)).map nlst) ∧ D ∉ ls)
      ⟨[], _, _, _, _, _, rfl, eD, upd_same, Pts.nil, by simp⟩ (fun j σ H' _ ⟨ls, z3, z4, z5, z6, z7, h1, h2, _⟩ => SqL.of (h2 _ _ hla)) ?_ ?_⟩
    · rintro i v σ H1 H2 hi ⟨ls, z3, z4, z5, z6, z7, rfl, e1, hD1, hp1, hDl⟩ ⟨rfl, hv⟩
      rw [List.length_map, hlal] at hi
      have hiA : i < A.length := by rw [rA.1]; exact hi
      obtain ⟨r, hr1, hr2⟩ := hpa.get (i := i) (o := nlst (Mu.bitsL A[i])) (by rw [List.getElem?_map, List.getElem?_map, List.getElem?_eq_getElem hiA]; rfl)
      rw [List.getElem?_map, hr1] at hv
      cases hv
      have hm : A[i] < 2 ^ n := rA.2 _ (List.getElem_mem _)
      have hbl : (Mu.bitsL A[i]).length ≤ 3 := bits_len ⟨A[i], m8 hm⟩
      refine ⟨Nat.zero_le _, fun o ho => ?_⟩
      have eo : Same H (L2.upd H2 o (.lst [])) := Same.upd e1 ho
      have hoD : ∀ {q : Addr} {x : HO}, H2 q = some x → q ≠ o := fun h => ne_of_none h ho
      refine ⟨_, rfl, r, rfl, ⟨_, SqL.of (eo _ _ hr2)⟩, for_it (walk_list (xs := (Mu.bitsL A[i]).map nV)) (fun j σ H' => ∃ (o : Addr) (z5 z6 z7 : Option V), σ = [some (.ref a), some (.ref b), some (.ref D), some (.ref r), some (.ref o), z5, z6, z7] ∧ Same H2 H' ∧ H' o = some (nlst (gathP (B.map Mu.bitsL) [] ((Mu.bitsL A[i]).take j))) ∧ (gathP (B.map Mu.bitsL) [] ((Mu.bitsL A[i]).take j)).length ≤ 3 * j)
        ⟨o, _, _, _, rfl, Same.upd (Same.refl _) ho, upd_same, Nat.le_refl _⟩ (fun j σ H' _ ⟨_, _, _, _, _, h2, _⟩ => SqL.of (h2 _ _ (e1 _ _ hr2))) ?_ ?_⟩
      · rintro j v σ H3 H4 hj ⟨o, z5, z6, z7, rfl, e3, ho3, hgl⟩ ⟨rfl, hv⟩
        rw [List.length_map] at hj
        rw [List.getElem?_map, List.getElem?_eq_getElem hj] at hv
        cases hv
        have hmid : (Mu.bitsL A[i])[j] < n := Mu.bitsL_lt hm (List.getElem_mem _)
        generalize hg : gathP (B.map Mu.bitsL) [] ((Mu.bitsL A[i]).take j) = g at ho3 hgl
        have hgs : gathP (B.map Mu.bitsL) [] ((Mu.bitsL A[i]).take (j + 1)) = g ++ ((B.map Mu.bitsL).getD (Mu.bitsL A[i])[j] []).filter fun x => decide (x ∉ g) := by
          rw [take_get (List.getElem?_eq_getElem hj), gathP_snoc, hg]
        generalize (Mu.bitsL A[i])[j] = mid at hmid hgs
        have hmB : mid < B.length := by rw [rB.1]; exact hmid
        have eB : (B.map Mu.bitsL).getD mid [] = Mu.bitsL B[mid] := by
          rw [List.getD_eq_getElem?_getD, List.getElem?_map, List.getElem?_eq_getElem hmB]
          rfl
        rw [eB] at hgs
        have hBl : (Mu.bitsL B[mid]).length ≤ 3 := bits_len ⟨B[mid], m8 (rB.2 _ (List.getElem_mem _))⟩
        obtain ⟨x, hx1, hx2⟩ := hpb.get (i := mid) (o := nlst (Mu.bitsL B[mid])) (by rw [List.getElem?_map, List.getElem?_map, List.getElem?_eq_getElem hmB]; rfl)
        generalize Mu.bitsL B[mid] = bm at hgs hBl hx2
        have E3 : Same H H4 := e1.trans e3
        refine ⟨_, rfl, _, rfl, _, rfl, b, _, _, .ref x, rfl, rfl, SqL.of (E3 _ _ hlb), atI_nat (by rw [List.getElem?_map, hx1]; rfl), x, rfl, ⟨_, SqL.of (E3 _ _ hx2)⟩, fun D2 hD2 => ?_⟩
        refine lc_keep (walk_list (xs := bm.map nV)) hD2 (fun q _ acc => acc = ((bm.take q).filter fun x => decide (x ∉ g)).map nV) rfl (fun H' e => SqL.of (e _ _ (E3 _ _ hx2))) ?_ ?_
        · rintro q v H5 H6 acc hq e5 hD5 rfl ⟨rfl, hv⟩
          rw [List.length_map] at hq
          rw [List.getElem?_map, List.getElem?_eq_getElem hq] at hv
          cases hv
          have ei : inV (nV bm[q]) (g.map nV) = decide (bm[q] ∈ g) := inV_nat _ _
          refine ⟨rfl, _, rfl, _, rfl, o, _, rfl, .inl (SqL.of (e5 _ _ ho3)), rfl, flat_nat _, _, rfl, ?_⟩
          show if (!inV (nV bm[q]) (g.map nV)) = true then _ else _
          rw [ei]
          have er : (bm.take (q + 1)).filter (fun x => decide (x ∉ g)) = (bm.take q).filter (fun x => decide (x ∉ g)) ++ (if decide (bm[q] ∈ g) = true then [] else [bm[q]]) := by
            rw [take_get (List.getElem?_eq_getElem hq), List.filter_append, List.filter_cons]
            by_cases h : bm[q] ∈ g
            · simp [h]
            · simp [h]
          cases hd : decide (bm[q] ∈ g) with
          | false =>
            rw [hd, if_neg Bool.false_ne_true] at er
            refine iteT ⟨_, rfl, PvK.more hD2 e5 hD5 ?_ ?_⟩
            · rw [List.length_map]
              have := List.length_filter_le (fun x => decide (x ∉ g)) (bm.take q)
              rw [List.length_take] at this
              omega
            · rw [er, List.map_append]
              rfl
          | true =>
            rw [hd, if_pos rfl, List.append_nil] at er
            refine iteF ⟨_, e5, hD5, ?_⟩
            show _ = List.map nV (List.filter (fun x => decide (x ∉ g)) (bm.take (q + 1)))
            rw [er]
        · rintro H5 acc e5 hD5 rfl
          rw [List.length_map, List.take_length] at hD5
          have ho5 : H5 o = some (nlst g) := e5 _ _ ho3
          refine ⟨o, D2, _, _, rfl, rfl, ho5, hD5, ?_, fun p hp => ⟨p, _, _, _, rfl, ?_, ?_, ?_⟩⟩
          · rw [List.length_map, List.length_map]
            have := List.length_filter_le (fun x => decide (x ∉ g)) bm
            have hj3 : j < 3 := by omega
            exact Nat.le_of_lt (small1000 (by omega))
          · exact Same.upd (e3.trans e5) hp
          · rw [upd_same, hgs]
            unfold nlst
            rw [List.map_append]
          · rw [hgs, List.length_append]
            have := List.length_filter_le (fun x => decide (x ∉ g)) bm
            omega
      · rintro σ H3 ⟨o, z5, z6, z7, rfl, e3, ho3, hgl⟩
        rw [List.length_map, List.take_length] at ho3
        have E3 : Same H H3 := e1.trans e3
        have hD3 := e3 _ _ hD1
        have eg : Mu.gather (B.map Mu.bitsL) (Mu.bitsL A[i]) = gathP (B.map Mu.bitsL) [] (Mu.bitsL A[i]) := rfl
        rw [← eg] at ho3
        refine ⟨_, rfl, .inl ⟨rfl, _, SqL.of hD3⟩, _, rfl, b, _, rfl, .inl (SqL.of (E3 _ _ hlb)), _, rfl, ?_, ?_, fun D2 hD2 => ?_⟩
        · rw [List.length_map, hlbl]; omega
        · rw [List.length_map, hlbl]; omega
        rw [List.length_map, hlbl]
        refine lc_keep (walk_range (n := n)) hD2 (fun q _ acc => acc = ((List.range q).filter fun x => decide (x ∈ Mu.gather (B.map Mu.bitsL) (Mu.bitsL A[i]))).map nV) rfl (fun _ _ => trivial) ?_ ?_
        · rintro q v H5 H6 acc hq e5 hD5 rfl ⟨rfl, rfl⟩
          have ei : inV (V.int (0 + (q : Nat))) ((Mu.gather (B.map Mu.bitsL) (Mu.bitsL A[i])).map nV) = decide (q ∈ Mu.gather (B.map Mu.bitsL) (Mu.bitsL A[i])) := by
            rw [show (0 : Int) + (q : Nat) = ((q : Nat) : Int) by omega]
            exact inV_nat q _
          refine ⟨rfl, _, rfl, _, rfl, o, _, rfl, .inl (SqL.of (e5 _ _ ho3)), rfl, flat_nat _, _, rfl, ?_⟩
          show if inV (V.int (0 + (q : Nat))) ((Mu.gather (B.map Mu.bitsL) (Mu.bitsL A[i])).map nV) = true then _ else _
          rw [ei]
          generalize Mu.gather (B.map Mu.bitsL) (Mu.bitsL A[i]) = g at *
          have er : (List.range (q + 1)).filter (fun o => decide (o ∈ g)) = (List.range q).filter (fun o => decide (o ∈ g)) ++ (if decide (q ∈ g) = true then [q] else []) := by
            rw [List.range_succ, List.filter_append, List.filter_cons]
            rfl
          cases hd : decide (q ∈ g) with
          | true =>
            rw [hd, if_pos rfl] at er
            refine iteT ⟨_, rfl, PvK.more hD2 e5 hD5 ?_ ?_⟩
            · rw [List.length_map]
              have := List.length_filter_le (fun o => decide (o ∈ g)) (List.range q)
              rw [List.length_range] at this
              omega
            · rw [er, List.map_append]
              congr 2
              show V.int (0 + ((q : Nat) : Int)) = V.int ((q : Nat) : Int)
              congr 1
              omega
          | false =>
            rw [hd, if_neg Bool.false_ne_true, List.append_nil] at er
            refine iteF ⟨_, e5, hD5, ?_⟩
            show _ = List.map nV (List.filter (fun o => decide (o ∈ g)) (List.range (q + 1)))
            rw [er]
        · rintro H5 acc e5 hD5 rfl
          have hD5' : H5 D2 = some (nlst (Mu.joinRow (B.map Mu.bitsL) (Mu.bitsL A[i]))) := by
            rw [hD5]
            unfold Mu.joinRow nlst
            rw [List.length_map, rB.1]
          have hDD2 : D ≠ D2 := ne_of_none hD3 hD2
          have eH := E3.trans e5
          have hpt : Pts H5 (ls ++ [D2]) (((A.take (i + 1)).map fun m => Mu.joinRow (B.map Mu.bitsL) (Mu.bitsL m)).map nlst) := by
            rw [take_get (List.getElem?_eq_getElem hiA), List.map_append, List.map_append]
            exact ((hp1.same e3).same e5).snoc hD5'
          have hll : ls.length = i := by
            have := hp1.1
            rw [List.length_map, List.length_map, List.length_take] at this
            omega
          refine ⟨D, _, _, rfl, rfl, e5 _ _ hD3, ?_, ls ++ [D2], _, _, _, _, _, rfl, Same.updn eH hD, ?_, ?_, ?_⟩
          · rw [List.length_map, hll]
            exact small1000 (by omega)
          · rw [upd_same, List.map_append]
            rfl
          · refine hpt.upd ?_
            intro z
            rcases List.mem_append.mp z with z | z
            · exact hDl z
            · exact hDD2 (List.mem_singleton.mp z)
          · intro z
            rcases List.mem_append.mp z with z | z
            · exact hDl z
            · exact hDD2 (List.mem_singleton.mp z)
    · rintro σ H1 ⟨ls, z3, z4, z5, z6, z7, rfl, e1, hD1, hp1, hDl⟩
      rw [List.length_map, hlal] at hp1
      have : (A.take n).map (fun m => Mu.joinRow (B.map Mu.bitsL) (Mu.bitsL m)) = (Mu.prod A B).map Mu.bitsL := by
        rw [← rA.1, List.take_length, ← Mu.joinL_bits n3 rA rB]
        unfold Mu.joinL
        rw [List.map_map]
        rfl
      rw [this] at hp1
      exact ⟨_, rfl, k _ D e1 hD ⟨ls, hD1, hp1⟩⟩
end
end Mz
namespace Mz
open PySem PySem.Spec PyProof.Rows L2 He C8
section
variable {P : Program} {w : World} {K : PySem.W.Frag} {mg : Str → Option Value} {base : Heap}
theorem scLawThrough : FnScope ["_law_own_here", "_law_n", "_law_row_here", "_law_rows", "_law_letter"] ["_law_own_here", "_law_n", "_law_row_here"] (defScope sLawThrough) := fnScope_by (by decide +kernel)
theorem c__law_through (T : Tx K mg) : Cal P w K mg base 2 "_law_through" spLawThrough [] := by
  refine calD T.d__law_through T.g__law_through scLawThrough (fun _ _ _ _ _ _ us hl => match us, hl with | [_, _, _], _ => rfl) (fun vs H Q E h => ?_) (fun cdv A outer s H vs Q E hr h => ?_)
  · obtain ⟨_, _, _, _, _, rfl, _⟩ := h
    rfl
  · obtain ⟨d, n, tb, G, R, rfl, hO, gok, hR, k⟩ := h
    have hu := hu_of hr
    refine ⟨_, (pss_cons (ps_set (i := 3) scLawThrough.nd rfl (Or.inl rfl) (pe_c (c__law_same_rows T) hr (by decide) rfl (pa_cons (pv 1) pa_nil)))
      (pss_cons (ps_for PassesOwn.never rfl (pi_str (pv 2)) (pg_name (i := 4) scLawThrough.nd rfl (Or.inl rfl))
        (pss_one (ps_set (i := 3) scLawThrough.nd rfl (Or.inl rfl) (pe_c (c__law_join T) hr (by decide) rfl (pa_cons (pv 3) (pa_cons (pe_dget hu (pv 0) (pv 4) (fun _ _ => rfl)) pa_nil))))))
      (pss_one (ps_ret (pv 3))))), ?_⟩
    refine ⟨_, rfl, n, rfl, gok.n3, fun H1 l e1 hl hrow => ?_⟩
    refine ⟨_, rfl, _, rfl, for_it (walk_str (z := SX.S R)) (fun i σ H' => ∃ (l : Addr) (z4 : Option V), σ = [some (.ref d), some (nV n), some (.str (SX.S R)), some (.ref l), z4] ∧ Same H H' ∧ RowsAt H' l ((Mu.after tb (Mu.idm n) (R.take i)).map Mu.bitsL)) ⟨l, _, rfl, e1, hrow⟩ (fun _ _ _ _ _ => trivial) ?_ ?_⟩
    · rintro i v σ H2 H3 hi ⟨l, z4, rfl, e2, hrow⟩ ⟨rfl, c, hc, rfl⟩
      have hci := S_get hc
      have hcR : c ∈ R := List.mem_of_getElem? hci
      obtain ⟨r, hr1, hr2⟩ := lookup_some (F := G) (c := c) (hR c hcR)
      have hO2 := hO.same e2
      have g := DGet.k (k := lK c) hO2.1
      rw [valV_kvF, hr1] at g
      have rl : Mu.Rel n (Mu.after tb (Mu.idm n) (R.take i)) := Mu.after_rel (Mu.idm_rel n) fun l hl => gok.rel l (hR l (List.mem_of_mem_take hl))
      refine ⟨_, rfl, _, rfl, _, rfl, d, .ref r, rfl, g, l, r, n, _, _, rfl, hrow, hO2.2 _ hr2, gok.n3, rl, gok.rel c (hR c hcR), fun H5 t5 e5 hn5 ht5 => ⟨t5, _, rfl, e2.trans e5, ?_⟩⟩
      rw [take_get hci, Mu.after_snoc]
      exact ht5
    · rintro σ H2 ⟨l, z4, rfl, e2, hrow⟩
      rw [S_size, List.take_length] at hrow
      exact ⟨_, rfl, k _ l e2 hrow⟩
theorem scLawRow : FnScope ["_law_box_here", "_law_own_here", "_law_cap", "_law_row_here", "_law_letters_here", "_law_k"] ["_law_box_here", "_law_own_here", "_law_cap"] (defScope sLawRow) := fnScope_by (by decide +kernel)
theorem c__law_row (T : Tx K mg) : Cal P w K mg base 2 "_law_row" spLawRow [] := by
  refine calD T.d__law_row T.g__law_row scLawRow (fun _ _ _ _ _ _ us hl => match us, hl with | [_, _, _], _ => rfl) (fun vs H Q E h => ?_) (fun cdv A outer s H vs Q E hr h => ?_)
  · obtain ⟨_, _, _, _, _, _, rfl, _⟩ := h
    rfl
  · obtain ⟨B, L, d, n, tb, G, rfl, hBx, hO, gok, k⟩ := h
    have hu := hu_of hr
    refine ⟨_, (pss_cons (ps_set (i := 3) scLawRow.nd rfl (Or.inl rfl) pe_str)
      (pss_cons (ps_set (i := 4) scLawRow.nd rfl (Or.inl rfl) (pe_callTy (call_listD rfl) (by rfl) T.z_list (by decide +kernel) (pa_cons (pv 1) pa_nil)))
      (pss_cons (ps_if (pt_cmpR (op_neDK (K := K) rfl hr.units) (pv 4) (pe_lst pa_nil) (nomark _))
        (pss_one (ps_for PassesOwn.never rfl (pi_range1 rfl T.z_range (pa_cons (pe_c (c__law_take T) hr (by decide) rfl (pa_cons (pv 0) (pa_cons (pe_op op_add (pv 2) pe_int) pa_nil))) pa_nil)) (pg_name (i := 5) scLawRow.nd rfl (Or.inl rfl))
          (pss_one (ps_set (i := 3) scLawRow.nd rfl (Or.inl rfl) (pe_op op_add_str (pv 3) (pe_ix (ix_listK (K := K) rfl) (pv 4) (pe_c (c__law_take T) hr (by decide) rfl (pa_cons (pv 0) (pa_cons (pe_callB (call_lenK (K := K) rfl) (by rfl) T.z_len PySem.boot_len (pa_cons (pv 4) pa_nil)) pa_nil))) (fun _ _ => rfl)))))))
        pss_nil)
      (pss_one (ps_ret (pv 3)))))), ?_⟩
    refine ⟨_, rfl, d, _, rfl, .inl hO.1, fun l hl => ?_⟩
    have nl := hBx.new hl
    have ek : (kvF V.ref G).map (fun kv => kV kv.1) = (G.map (·.1)).map lV := by
      unfold kvF
      rw [List.map_map, List.map_map]
      rfl
    rw [ek]
    have hgl : (G.map (·.1)).length ≤ 4 := by rw [List.length_map]; exact gok.few
    refine ⟨_, rfl, Nat.zero_le _, fun q hq => ?_⟩
    have hlq : l ≠ q := ne_of_none upd_same hq
    refine ⟨.list ((G.map (·.1)).map dK1), .list [], .lst (SqL.of (by rw [upd_ne hlq]; exact upd_same)) (dpKs _), .lst (SqL.of upd_same) .nil, shKs gok.abc, sh_nil, _, rfl, ?_⟩
    rw [eqv_nil]
    have bl := hBx.upd (o := .lst ((G.map (·.1)).map lV)) nl.1 nl.2
    have nq := bl.new hq
    have bq := bl.upd (o := .lst []) nq.1 nq.2
    have eq0 : SameX B H (L2.upd (L2.upd H l (.lst ((G.map (·.1)).map lV))) q (.lst [])) := SameX.updn (SameX.updn SameX.refl hl) (by rw [upd_ne (Ne.symm hlq)] at hq; exact hq)
    have lq : (L2.upd (L2.upd H l (.lst ((G.map (·.1)).map lV))) q (.lst [])) l = some (.lst ((G.map (·.1)).map lV)) := by
      rw [upd_ne hlq]
      exact upd_same
    generalize hHq : (L2.upd (L2.upd H l (.lst ((G.map (·.1)).map lV))) q (.lst [])) = Hq at bq eq0 lq
    rw [List.length_map] at hgl
    by_cases hG0 : G = []
    · subst hG0
      exact iteF ⟨_, rfl, k Hq [] eq0 bq (Nat.zero_le _) (fun c hc => by cases hc)⟩
    have hGp : 0 < G.length := List.length_pos_iff.mpr hG0
    have hne : (!(List.map dK1 (List.map (fun x => x.fst) G)).isEmpty) = true := by
      cases G with
      | nil => exact absurd rfl hG0
      | cons g G => rfl
    rw [hne]
    refine iteT ⟨_, rfl, _, rfl, _, _, rfl, rfl, B, L, 7, rfl, bq, by decide, by decide, fun H1 r e1 b1 hr7 => ⟨_, rfl, by omega, by omega, ?_⟩⟩
    have e01 := eq0.trans e1
    have l1 : H1 l = some (.lst ((G.map (·.1)).map lV)) := e1 _ _ nl.1 lq
    refine for_it (walk_range (n := r)) (fun i σ H' => ∃ (R : List Nat) (z5 : Option V), σ = [some (.ref B), some (.ref d), some (nV 6), some (.str (SX.S R)), some (.ref l), z5] ∧ SameX B H H' ∧ BoxAt H' B L ∧ H' l = some (.lst ((G.map (·.1)).map lV)) ∧ R.length = i ∧ ∀ c ∈ R, c ∈ G.map (·.1))
      ⟨[], _, rfl, e01, b1, l1, rfl, by simp⟩ (fun _ _ _ _ _ => trivial) ?_ ?_
    · rintro i v σ H2 H3 hi ⟨R, z5, rfl, e2, b2, l2, hRl, hR⟩ ⟨rfl, rfl⟩
      refine ⟨_, rfl, _, rfl, _, rfl, _, rfl, l, _, rfl, .inl (SqL.of l2), B, L, G.length, by rw [List.length_map, List.length_map]; rfl, b2, hGp, by omega, fun H4 j e4 b4 hj => ?_⟩
      have hjG : j < (G.map (·.1)).length := by rw [List.length_map]; exact hj
      refine ⟨l, _, _, lV (G.map (·.1))[j], rfl, rfl, SqL.of (e4 _ _ nl.1 l2), atI_nat (by rw [List.getElem?_map, List.getElem?_eq_getElem hjG]; rfl), _, _, rfl, rfl, ?_, R ++ [(G.map (·.1))[j]], some (V.int (0 + ((i : Nat) : Int))), ?_, e2.trans e4, b4, e4 _ _ nl.1 l2, by simp [hRl], ?_⟩
      · rw [SX.S_len, SX.S_len]
        exact Nat.le_of_lt (small1000 (by show R.length + 1 ≤ 1000; omega))
      · show [some (V.ref B), some (V.ref d), some (nV 6), some (V.str (SX.S R ++ SX.S [(G.map (·.1))[j]])), some (V.ref l), _] = _
        rw [SX.S_cat]
      · intro c hc
        rcases List.mem_append.mp hc with h | h
        · exact hR c h
        · rw [List.mem_singleton.mp h]
          exact List.getElem_mem _
    · rintro σ H2 ⟨R, z5, rfl, e2, b2, l2, hRl, hR⟩
      exact ⟨_, rfl, k H2 R e2 b2 (by omega) hR⟩
end
end Mz
/-! the plain law of _law_made: each kind of person says the same rows -/
namespace Mz
open PySem PySem.Spec PyProof.Rows L2 He C8
theorem len_pq (p q : Nat → Bool) (h : ∀ i, p i = true → q i = false) : ∀ n, ((List.range n).filter p).length + ((List.range n).filter q).length ≤ n
  | 0 => by simp
  | n + 1 => by
    have ih := len_pq p q h n
    rw [List.range_succ, List.filter_append, List.filter_append, List.length_append, List.length_append, List.filter_cons, List.filter_cons]
    have := h n
    cases hp : p n <;> cases hq : q n <;> simp_all <;> omega
theorem all_pq (p q : Nat → Bool) (h : ∀ i, p i = true → q i = false) : ∀ n, ((List.range n).filter p).length + ((List.range n).filter q).length = n → ∀ i < n, p i = true ∨ q i = true
  | 0, _, i, hi => absurd hi (Nat.not_lt_zero _)
  | n + 1, e, i, hi => by
    have le := len_pq p q h n
    have hn := h n
    rw [List.range_succ, List.filter_append, List.filter_append, List.length_append, List.length_append, List.filter_cons, List.filter_cons] at e
    have key : (p n = true ∨ q n = true) ∧ ((List.range n).filter p).length + ((List.range n).filter q).length = n := by
      cases hp : p n <;> cases hq : q n <;> simp_all <;> omega
    by_cases hin : i = n
    · subst hin
      exact key.1
    · exact all_pq p q h n key.2 i (by omega)
/-- rows heard as they are said -/
def wR (n : Nat) (S : List (List Nat)) (i : Nat) : List Nat := (List.range n).filter fun o => decide (o ∈ S.getD i [])
theorem pSaid_range {n : Nat} {S : List (List Nat)} {i : Nat} (hi : i < n) : pSaid n (List.range n) S i = wR n S i := by
  unfold pSaid wR
  have : (List.range n).getD i 0 = i := by simp [List.getD_eq_getElem?_getD, hi]
  rw [this]
def sureB (n : Nat) (S : List (List Nat)) (i : Nat) : Bool := decide (wR n S i = [i])
def looseB (n : Nat) (S : List (List Nat)) (i : Nat) : Bool := decide (i ∈ wR n S i) && !sureB n S i
def sureL (n : Nat) (S : List (List Nat)) : List Nat := (List.range n).filter (sureB n S)
def looseL (n : Nat) (S : List (List Nat)) : List Nat := (List.range n).filter (looseB n S)
def doubtB (n : Nat) (S : List (List Nat)) : Bool := decide ((sureL n S).length + (looseL n S).length = n)
def saysW (n : Nat) (S : List (List Nat)) (k w : Nat) : List Nat :=
  if looseB n S w = true ∧ doubtB n S = true ∧ 1 < k then (wR n S w).filter fun o => decide (o ≠ w) else if sureB n S w = true ∧ k ≠ 2 then List.range n else S.getD w []
def newS (n : Nat) (S : List (List Nat)) (k j : Nat) : List (List Nat) := (List.range n).map fun w => if w < j then saysW n S k w else S.getD w []
theorem newS_zero {n : Nat} {S : List (List Nat)} {k : Nat} (h : S.length = n) : newS n S k 0 = S := by
  apply List.ext_getElem?
  intro i
  unfold newS
  rw [List.getElem?_map]
  by_cases hi : i < n
  · rw [List.getElem?_range hi]
    show some (if i < 0 then _ else S.getD i []) = _
    rw [if_neg (Nat.not_lt_zero _), getD_at (d := []) (by rw [h]; exact hi)]
  · rw [List.getElem?_eq_none (by simp; omega), List.getElem?_eq_none (by omega)]
    rfl
theorem newS_getD {n : Nat} {S : List (List Nat)} {k i j : Nat} (hi : i < n) : (newS n S k j).getD i [] = if i < j then saysW n S k i else S.getD i [] := by
  unfold newS
  rw [List.getD_eq_getElem?_getD, List.getElem?_map, List.getElem?_range hi]
  rfl
theorem newS_len {n : Nat} {S : List (List Nat)} {k j : Nat} : (newS n S k j).length = n := by unfold newS; simp
theorem newS_step {n : Nat} {S : List (List Nat)} {k j : Nat} (hj : j < n) : (newS n S k j).set j (saysW n S k j) = newS n S k (j + 1) := by
  apply List.ext_getElem?
  intro i
  by_cases hi : i < n
  · by_cases hij : j = i
    · subst hij
      rw [List.getElem?_set_self (by rw [newS_len]; exact hj), getD_at (d := []) (by rw [newS_len]; exact hj), newS_getD hj, if_pos (Nat.lt_succ_self _)]
    · rw [List.getElem?_set_ne hij, getD_at (d := []) (by rw [newS_len]; exact hi), getD_at (d := []) (by rw [newS_len]; exact hi), newS_getD hi, newS_getD hi]
      by_cases h : i < j
      · rw [if_pos h, if_pos (by omega)]
      · rw [if_neg h, if_neg (by omega)]
  · rw [List.getElem?_eq_none (by rw [List.length_set, newS_len]; omega), List.getElem?_eq_none (by rw [newS_len]; omega)]
theorem wR_mem {n : Nat} {S : List (List Nat)} {i o : Nat} : o ∈ wR n S i ↔ o < n ∧ o ∈ S.getD i [] := by
  unfold wR
  rw [List.mem_filter, List.mem_range]
  simp
theorem wR_nodup {n : Nat} {S : List (List Nat)} {i : Nat} : (wR n S i).Nodup := List.Nodup.sublist List.filter_sublist List.nodup_range
theorem filt_id {n : Nat} {p : Nat → Bool} {T : List Nat} (h : ∀ o < n, p o = decide (o ∈ T)) : (List.range n).filter p = (List.range n).filter fun o => decide (o ∈ T) := by
  apply List.filter_congr
  intro o ho
  exact h o (List.mem_range.mp ho)
theorem wR_ext {n : Nat} {S : List (List Nat)} {i : Nat} {p : Nat → Bool} (h : ∀ o < n, p o = decide (o ∈ S.getD i [])) : wR n S i = (List.range n).filter p := by
  unfold wR
  exact (filt_id h).symm
theorem wR_new {n : Nat} {S : List (List Nat)} {k i : Nat} (hi : i < n) : wR n (newS n S k n) i = (List.range n).filter fun o => decide (o ∈ saysW n S k i) := by
  unfold wR
  rw [newS_getD hi, if_pos hi]
theorem sure_iff {n : Nat} {S : List (List Nat)} {i : Nat} (hi : i < n) : i ∈ sureL n S ↔ sureB n S i = true := by
  unfold sureL
  rw [List.mem_filter, List.mem_range]
  exact ⟨fun h => h.2, fun h => ⟨hi, h⟩⟩
theorem loose_iff {n : Nat} {S : List (List Nat)} {i : Nat} (hi : i < n) : i ∈ looseL n S ↔ looseB n S i = true := by
  unfold looseL
  rw [List.mem_filter, List.mem_range]
  exact ⟨fun h => h.2, fun h => ⟨hi, h⟩⟩
theorem not_loose {n : Nat} {S : List (List Nat)} {i : Nat} (h : sureB n S i = true) : looseB n S i = false := by
  unfold looseB
  rw [h]
  simp
theorem all_in {n : Nat} {S : List (List Nat)} (h : doubtB n S = true) {i : Nat} (hi : i < n) : sureB n S i = true ∨ looseB n S i = true :=
  all_pq (sureB n S) (looseB n S) (fun _ => not_loose) n (of_decide_eq_true h) i hi
/-- the words that stay -/
theorem says_stay {n : Nat} {S : List (List Nat)} {k i : Nat} (h1 : ¬ (looseB n S i = true ∧ doubtB n S = true ∧ 1 < k)) (h2 : ¬ (sureB n S i = true ∧ k ≠ 2)) : saysW n S k i = S.getD i [] := by
  unfold saysW
  rw [if_neg h1, if_neg h2]
theorem said_stay {n : Nat} {S : List (List Nat)} {k i : Nat} (hi : i < n) (h1 : ¬ (looseB n S i = true ∧ doubtB n S = true ∧ 1 < k)) (h2 : ¬ (sureB n S i = true ∧ k ≠ 2)) : pSaid n (List.range n) (newS n S k n) i = wR n S i := by
  rw [pSaid_range hi, wR_new hi, says_stay h1 h2]
  rfl
theorem dsaid_loose {n : Nat} {S : List (List Nat)} {k i : Nat} (hi : i < n) (hl : looseB n S i = true) (hd : doubtB n S = true) (hk : 1 < k) : dSaid n (List.range n) (newS n S k n) i = wR n S i := by
  unfold dSaid
  have hm : i ∈ wR n S i := by
    unfold looseB at hl
    exact of_decide_eq_true (Bool.and_eq_true_iff.mp hl).1
  symm
  apply wR_ext
  intro o ho
  rw [pSaid_range hi, wR_new hi]
  have e : saysW n S k i = (wR n S i).filter fun o => decide (o ≠ i) := by
    unfold saysW
    rw [if_pos ⟨hl, hd, hk⟩]
  rw [e, ← Bool.decide_or]
  congr 1
  apply propext
  rw [List.mem_filter, List.mem_range, decide_eq_true_iff, List.mem_filter, wR_mem]
  constructor
  · rintro (h | h)
    · exact h.2.1.2
    · rw [h]
      exact (wR_mem.mp hm).2
  · intro h
    by_cases hoi : o = i
    · exact .inr hoi
    · exact .inl ⟨ho, ⟨ho, h⟩, by simpa using hoi⟩
theorem dsaid_sure {n : Nat} {S : List (List Nat)} {i : Nat} (hi : i < n) (hs : sureB n S i = true) : dSaid n (List.range n) (newS n S 2 n) i = wR n S i := by
  unfold dSaid
  have hm : wR n S i = [i] := of_decide_eq_true hs
  rw [said_stay hi (fun z => by rw [not_loose hs] at z; exact absurd z.1 Bool.false_ne_true) (fun z => z.2 rfl)]
  symm
  apply wR_ext
  intro o ho
  rw [← Bool.decide_or]
  congr 1
  apply propext
  rw [wR_mem]
  constructor
  · rintro (h | h)
    · exact h.2
    · rw [h]
      have : i ∈ wR n S i := by rw [hm]; simp
      exact (wR_mem.mp this).2
  · intro h
    exact .inl ⟨ho, h⟩
theorem row_sure {n : Nat} {S : List (List Nat)} {i : Nat} (hs : sureB n S i = true) : wR n S i = [i] := of_decide_eq_true hs
/-- a person -/
theorem made_person {n : Nat} {S : List (List Nat)} (hd : doubtB n S = false) {i : Nat} (hi : i < n) : wR n S i = pSaid n (List.range n) (newS n S 2 n) i :=
  (said_stay hi (fun z => by rw [hd] at z; exact absurd z.2.1 Bool.false_ne_true) (fun z => z.2 rfl)).symm
theorem made_doubter {n : Nat} {S : List (List Nat)} (hd : doubtB n S = true) {i : Nat} (hi : i < n) : wR n S i = dSaid n (List.range n) (newS n S 2 n) i := by
  rcases all_in hd hi with h | h
  · exact (dsaid_sure hi h).symm
  · exact (dsaid_loose hi h hd (by decide)).symm
theorem made_kd {n : Nat} {S : List (List Nat)} (hd : doubtB n S = true) {i : Nat} (hi : i < n) : wR n S i = if i ∈ sureL n S then [i] else dSaid n (List.range n) (newS n S 3 n) i := by
  by_cases h : i ∈ sureL n S
  · rw [if_pos h]
    exact row_sure ((sure_iff hi).mp h)
  · rw [if_neg h]
    rcases all_in hd hi with h' | h'
    · exact absurd ((sure_iff hi).mpr h') h
    · exact (dsaid_loose hi h' hd (by decide)).symm
theorem made_knower {n k : Nat} {S : List (List Nat)} (hk : ¬ (1 < k ∧ doubtB n S = true)) {i : Nat} (hi : i < n) : wR n S i = if i ∈ sureL n S then [i] else pSaid n (List.range n) (newS n S k n) i := by
  by_cases h : i ∈ sureL n S
  · rw [if_pos h]
    exact row_sure ((sure_iff hi).mp h)
  · rw [if_neg h]
    exact (said_stay hi (fun z => hk ⟨z.2.2, z.2.1⟩) (fun z => h ((sure_iff hi).mpr z.1))).symm
/-- all outs are words -/
theorem new_outs {n k : Nat} {S : List (List Nat)} (n1 : 1 ≤ n) (hS : ∀ r ∈ S, r ≠ [] ∧ ∀ o ∈ r, o < n) (hl : S.length = n) {j : Nat} (hne : ∀ i < n, wR n S i ≠ []) : ∀ r ∈ newS n S k j, r ≠ [] ∧ ∀ o ∈ r, o < n := by
  intro r hr
  unfold newS at hr
  obtain ⟨i, hi, rfl⟩ := List.mem_map.mp hr
  have hi := List.mem_range.mp hi
  have old : S.getD i [] ≠ [] ∧ ∀ o ∈ S.getD i [], o < n := by
    have hiS : i < S.length := by rw [hl]; exact hi
    exact hS _ (List.mem_of_getElem? (getD_at (d := []) hiS))
  by_cases hij : i < j
  · rw [if_pos hij]
    unfold saysW
    split
    · rename_i h
      refine ⟨fun z => ?_, fun o ho => (wR_mem.mp (List.mem_filter.mp ho).1).1⟩
      have hlo := Bool.and_eq_true_iff.mp h.1
      have hm : i ∈ wR n S i := of_decide_eq_true hlo.1
      have hns : ¬ wR n S i = [i] := fun z => by
        have := hlo.2
        unfold sureB at this
        rw [decide_eq_true z] at this
        exact Bool.noConfusion this
      have hall : ∀ o ∈ wR n S i, o = i := fun o ho => by
        by_cases hoi : o = i
        · exact hoi
        · have : o ∈ (wR n S i).filter fun o => decide (o ≠ i) := List.mem_filter.mpr ⟨ho, by simpa using hoi⟩
          rw [z] at this
          cases this
      have nd := wR_nodup (n := n) (S := S) (i := i)
      generalize wR n S i = W at hm hns hall nd
      match W, hm, hns, hall, nd with
      | [x], hm, hns, hall, nd => exact hns (by rw [hall x (by simp)])
      | x :: y :: W, hm, hns, hall, nd =>
        have hx := hall x (by simp)
        have hy := hall y (by simp)
        rw [hx, hy] at nd
        simp at nd
    · split
      · refine ⟨fun z => ?_, fun o ho => List.mem_range.mp ho⟩
        have := congrArg List.length z
        rw [List.length_range] at this
        simp at this
        omega
      · exact old
  · rw [if_neg hij]
    exact old
theorem sureL_lt {n : Nat} {S : List (List Nat)} : ∀ k ∈ sureL n S, k < n := fun k hk => by
  unfold sureL at hk
  exact List.mem_range.mp (List.mem_filter.mp hk).1
end Mz
namespace Mz
open PySem PySem.Spec PyProof.Rows L2 He C8
def MadeAt (P : Program) (w : World) (K : PySem.W.Frag) (mg : Str → Option Value) (base : Heap) (H : Hp) (p n : Nat) (f : Nat → List Nat) : Prop := ∃ (C : Addr) (At : AtT), PutK P w K mg base C At ∧ At H p n f
def spLawMade (P : Program) (w : World) (K : PySem.W.Frag) (mg : Str → Option Value) (base : Heap) : Sp := fun vs H Q _ => ∃ (l a s r n k : Nat) (A : List Nat) (S : List (List Nat)), vs = [.ref l, nV k] ∧ H l = some (.lst [.ref a, .ref s, .ref r]) ∧ TriAt H a s r n A S ∧ k ≤ 3 ∧
  ∀ H' p, Same H H' → MadeAt P w K mg base H' p n (pSaid n A S) → Q (.ref p) H'
section
variable {P : Program} {w : World} {K : PySem.W.Frag} {mg : Str → Option Value} {base : Heap}
theorem k_Person (T : Tx K mg) : Mak P w K mg base 4 "Person" (ga K "Person") (spPersonInit K (ga K "Person")) [] := by
  obtain ⟨fd, F, b⟩ := f_Person___init__ (P := P) (w := w) (base := base) T (pcPerson T)
  exact ⟨_, fd, _, [], T.k_Person, F.mono (by decide), T.g_Person, b, .nil⟩
theorem k_Doubter (T : Tx K mg) : Mak P w K mg base 4 "Doubter" (ga K "Doubter") (spPersonInit K (ga K "Doubter")) [] := by
  obtain ⟨fd, F, b⟩ := f_Person___init__ (P := P) (w := w) (base := base) T (pcDoubter T)
  refine ⟨_, fd, _, [], T.k_Doubter, ?_, T.g_Doubter, b, .nil⟩
  rw [T.e_Doubter]
  exact F.mono (by decide)
theorem k_Knower (Y : Ty K mg) (PF : PFile P fileM) : Mak P w K mg base 4 "Knower" (ga K "Knower") (spKnowerInit K (ga K "Knower")) [] := by
  have T := Y.t
  obtain ⟨fd, F, b⟩ := f_Knower_init (P := P) (w := w) (base := base) Y PF (pcKnower T) Y.o_ki
  exact ⟨_, fd, _, [], T.k_Knower, F, T.g_Knower, b, .nil⟩
theorem k_KnowingDoubter (Y : Ty K mg) (PF : PFile P fileM) : Mak P w K mg base 4 "KnowingDoubter" (ga K "KnowingDoubter") (spKnowerInit K (ga K "KnowingDoubter")) [] := by
  have T := Y.t
  obtain ⟨fd, F, b⟩ := f_Knower_init (P := P) (w := w) (base := base) Y PF (pcKD T) Y.o_di
  refine ⟨_, fd, _, [], T.k_KnowingDoubter, ?_, T.g_KnowingDoubter, b, .nil⟩
  rw [T.e_KnowingDoubter]
  exact F
theorem putK {C : Addr} {At : AtT} (Y : Ty K mg) (hC : C ∈ [ga K "Person", ga K "Knower", ga K "Doubter", ga K "KnowingDoubter"]) (kd : Kind P w K mg base C At) : PutK P w K mg base C At := by
  obtain ⟨pr, g, h, FM⟩ := Y.tab
  obtain ⟨fd, F, b⟩ := f_table Y.t FM kd
  exact ⟨kd, pr, g, fd, h C hC, F, b⟩
theorem Pts.set {H : Hp} {ls : List Addr} {os : List HO} {j : Nat} {a : Addr} {o : HO} (h : Pts H ls os) (e : H a = some o) : Pts H (ls.set j a) (os.set j o) := by
  refine ⟨by rw [List.length_set, List.length_set, h.1], fun i b u x y => ?_⟩
  by_cases hij : j = i
  · subst hij
    have h1 : j < ls.length := by
      have := (List.getElem?_eq_some_iff.mp x).1
      rw [List.length_set] at this
      exact this
    rw [List.getElem?_set_self h1] at x
    rw [List.getElem?_set_self (by rw [← h.1]; exact h1)] at y
    cases x
    cases y
    exact e
  · rw [List.getElem?_set_ne hij] at x y
    exact h.2 i b u x y
theorem ixNn {n j : Nat} (hj : j < n) : ixN n (j : Int) = some j := by
  unfold ixN
  rw [if_pos (by omega), if_pos (by omega)]
  simp
theorem goT {b : Bool} {A B : Prop} (hb : b = true) (h : A) : if b = true then A else B := by
  rw [if_pos hb]
  exact h
theorem goF {b : Bool} {A B : Prop} (hb : b = false) (h : B) : if b = true then A else B := by
  rw [if_neg (by rw [hb]; exact Bool.false_ne_true)]
  exact h
theorem map_set {α β : Type} (f : α → β) (l : List α) (j : Nat) (a : α) : (l.set j a).map f = (l.map f).set j (f a) := List.map_set ..
/-- Person(hears, says), of either class -/
theorem mkPer {C : Addr} {H : Hp} {a s1 : Addr} {A : List Nat} {S : List (List Nat)} {Q : VK} {E : XK} (ha : H a = some (nlst A)) (hR : RowsAt H s1 S) (ok : PerOk A.length A S) (hS : ∀ r ∈ S, r ≠ [] ∧ ∀ o ∈ r, o < A.length) (k : ∀ H' p, Same H H' → PerAt K H' p C A.length A S [] → Q (.ref p) H') :
    ∀ x dx, H x = none → H dx = none → dx ≠ x → spPersonInit K C (.ref x :: ([.ref a, .ref s1] ++ [])) (L2.upd (L2.upd H dx (.own x)) x (.ins C dx [])) (fun v H2 => v = .non ∧ Q (.ref x) H2) E := by
  intro x dx hx hdx ne
  have e0 : Same H (L2.upd (L2.upd H dx (.own x)) x (.ins C dx [])) := Same.updn (Same.upd (Same.refl _) hdx) hx
  refine ⟨x, dx, a, s1, A, S, rfl, upd_same, e0 _ _ ha, hR.same e0, ok, hS, fun H' e h => ⟨rfl, k H' x (fun b o hb => ?_) h⟩⟩
  exact e b o (ne_of_none hb hx) (e0 b o hb)
theorem mkKno {C : Addr} {H : Hp} {a s1 l : Addr} {A : List Nat} {S : List (List Nat)} {kn : List Nat} {Q : VK} {E : XK} (ha : H a = some (nlst A)) (hR : RowsAt H s1 S) (hl : H l = some (nlst kn)) (ok : PerOk A.length A S) (hS : ∀ r ∈ S, r ≠ [] ∧ ∀ o ∈ r, o < A.length) (hk : ∀ k ∈ kn, k < A.length)
    (k : ∀ H' p q, Same H H' → PerAt K H' p C A.length A S [("sure_words", .ref q)] → H' q = some (ntup kn) → Q (.ref p) H') :
    ∀ x dx, H x = none → H dx = none → dx ≠ x → spKnowerInit K C (.ref x :: ([.ref a, .ref s1, .ref l] ++ [])) (L2.upd (L2.upd H dx (.own x)) x (.ins C dx [])) (fun v H2 => v = .non ∧ Q (.ref x) H2) E := by
  intro x dx hx hdx ne
  have e0 : Same H (L2.upd (L2.upd H dx (.own x)) x (.ins C dx [])) := Same.updn (Same.upd (Same.refl _) hdx) hx
  refine ⟨x, dx, a, s1, l, A, S, kn, rfl, upd_same, e0 _ _ ha, hR.same e0, e0 _ _ hl, ok, hS, hk, fun H' q e h hq => ⟨rfl, k H' x q (fun b o hb => ?_) h hq⟩⟩
  exact e b o (ne_of_none hb hx) (e0 b o hb)
theorem scLawMade : FnScope ["_law_one", "_law_kind", "_law_words_here", "_law_says", "_law_word", "_law_sure", "_law_loose", "_law_doubts", "_law_row_here", "_law_out"] ["_law_one", "_law_kind"] (defScope sLawMade) := fnScope_by (by decide +kernel)
theorem c__law_made (Y : Ty K mg) (PF : PFile P fileM) : Cal P w K mg base 6 "_law_made" (spLawMade P w K mg base) [] := by
  have T := Y.t
  obtain ⟨fd, F⟩ := T.d__law_made
  obtain ⟨ds, rds, b⟩ := F.binds1 (ps := ["_law_one", "_law_kind"]) 2 1 (by simp) rfl (fun T kV doc pm an cdv ct us its hl hi => match us, hl, its, hi with | [_, _], _, [_], _ => ⟨_, rfl, rfl⟩)
  have : ds = [] := by
    cases rds
    rfl
  subst this
  refine ⟨_, fd, _, [], F.ok scLawMade (fun vs H Q E h => ?_) (fun cdv A outer s H vs Q E hr h => ?_), T.g__law_made, F.kp, b, .nil⟩
  · obtain ⟨_, _, _, _, _, _, _, _, rfl, _⟩ := h
    rfl
  · obtain ⟨l, a, s1, r, n, kd, A1, S1, rfl, hl, ⟨ha, hs, hrr, tri⟩, hk3, k⟩ := h
    have hu := hu_of hr
    refine ⟨_, PSs.nox (pss_cons (ps_set (i := 2) scLawMade.nd rfl (Or.inl rfl) (pe_listRg rfl rfl T.z_list (prg_1 rfl T.z_range (pe_callB (call_lenK (K := K) rfl) (by rfl) T.z_len PySem.boot_len (pa_cons (pe_ix (ix_listK (K := K) rfl) (pv 0) pe_int (fun _ _ => rfl)) pa_nil)))))
      (pss_cons (ps_setLc (i := 3) (own := [("_law_row_here", 8)]) (g := gName 8) (tt := tYes)  (rfl) scLawMade.nd rfl rfl (sw_true rfl rfl rfl (by decide +kernel)) (pi_list (pe_ix (ix_listK (K := K) rfl) (pv 0) pe_int (fun _ _ => rfl))) (blkOk_by (own := [("_law_row_here", 8)]) (N := ["_law_one", "_law_kind", "_law_words_here", "_law_says", "_law_word", "_law_sure", "_law_loose", "_law_doubts", "_law_row_here", "_law_out"]) (sc := defScope sLawMade) (by decide +kernel)) (fun _ _ _ _ _ => pg_name (i := 8) scLawMade.nd rfl (Or.inl rfl)) (fun _ _ _ _ _ => pts_nil) (fun _ _ _ _ _ => (pe_callTy (call_list_ofK (K := K) rfl) (by rfl) T.z_list (by decide +kernel) (pa_cons (pv 8) pa_nil))))
      (pss_cons (ps_if (PW.pt (pw_or (pt_cmpR (op_neDK (K := K) rfl hr.units) (pe_ix (ix_listK (K := K) rfl) (pv 0) pe_int (fun _ _ => rfl)) (pv 2) (nomark _)) (pw_or1 (pt_cmpR op_eq (pv 1) pe_int (nomark _)))))
        (pss_one (ps_ret (pe_mk (k_Person T) hr (by decide) rfl (pa_cons (pe_callTy (call_list_ofK (K := K) rfl) (by rfl) T.z_list (by decide +kernel) (pa_cons (pe_ix (ix_listK (K := K) rfl) (pv 0) pe_int (fun _ _ => rfl)) pa_nil)) (pa_cons (pv 3) pa_nil)))))
        pss_nil)
      (pss_cons (ps_set (i := 5) scLawMade.nd rfl (Or.inr rfl) (pe_lc (own := [("_law_word", 4)]) (g := gName 4)  (rfl) scLawMade.nd (pi_list (pv 2)) (blkOk_by (own := [("_law_word", 4)]) (N := ["_law_one", "_law_kind", "_law_words_here", "_law_says", "_law_word", "_law_sure", "_law_loose", "_law_doubts", "_law_row_here", "_law_out"]) (sc := defScope sLawMade) (by decide +kernel)) (fun _ _ _ _ _ => pg_name (i := 4) scLawMade.nd rfl (Or.inl rfl)) (fun _ _ _ _ _ => (pts_one (pt_cmpR (op_eqDK (K := K) rfl hr.units) (pe_ix (ix_listK (K := K) rfl) (pe_ix (ix_listK (K := K) rfl) (pv 0) pe_int (fun _ _ => rfl)) (pv 4) (fun _ _ => rfl)) (pe_lst (pa_cons (pv 4) pa_nil)) (nomark _)))) (fun _ _ _ _ _ => (pv 4))))
      (pss_cons (ps_setLc (i := 6) (own := [("_law_word", 4)]) (g := gName 4)  (rfl) scLawMade.nd rfl rfl (sw_true rfl rfl rfl (by decide +kernel)) (pi_list (pv 2)) (blkOk_by (own := [("_law_word", 4)]) (N := ["_law_one", "_law_kind", "_law_words_here", "_law_says", "_law_word", "_law_sure", "_law_loose", "_law_doubts", "_law_row_here", "_law_out"]) (sc := defScope sLawMade) (by decide +kernel)) (fun _ _ _ _ _ => pg_name (i := 4) scLawMade.nd rfl (Or.inl rfl)) (fun _ _ _ _ _ => (pts_one (PW.pt (pw_and (pt_cmpR (op_inK (K := K) rfl) (pv 4) (pe_ix (ix_listK (K := K) rfl) (pe_ix (ix_listK (K := K) rfl) (pv 0) pe_int (fun _ _ => rfl)) (pv 4) (fun _ _ => rfl)) (by rfl)) (pw_and1 (pt_cmpR (op_notInK (K := K) rfl) (pv 4) (pv 5) (by rfl))))))) (fun _ _ _ _ _ => (pv 4)))
      (pss_cons (ps_set (i := 7) scLawMade.nd rfl (Or.inl rfl) (pe_cmpR op_eq (pe_op op_add (pe_callB (call_lenK (K := K) rfl) (by rfl) T.z_len PySem.boot_len (pa_cons (pv 5) pa_nil)) (pe_callB (call_lenK (K := K) rfl) (by rfl) T.z_len PySem.boot_len (pa_cons (pv 6) pa_nil))) (pe_callB (call_lenK (K := K) rfl) (by rfl) T.z_len PySem.boot_len (pa_cons (pv 2) pa_nil)) (nomark _)))
      (pss_cons (ps_for PassesOwn.never rfl (pi_list (pv 2)) (pg_name (i := 4) scLawMade.nd rfl (Or.inr rfl))
        (pss_cut (ps_if (PW.pt (pw_and (pt_cmpR (op_inK (K := K) rfl) (pv 4) (pv 5) (by rfl)) (pw_and1 (pt_cmpR op_ne (pv 1) pe_int (nomark _)))))
          (pss_one (ps_asg (pe_callTy (call_list_ofK (K := K) rfl) (by rfl) T.z_list (by decide +kernel) (pa_cons (pv 2) pa_nil)) (pg_sub (pv 3) (pv 4) set_list)))
          pss_nil)
        (pss_one (ps_if (PW.pt (pw_and (pt_cmpR (op_inK (K := K) rfl) (pv 4) (pv 6) (by rfl)) (pw_and (pt_val (pv 7)) (pw_and1 (pt_cmpR op_gt (pv 1) pe_int (nomark _))))))
          (pss_one (ps_asg (pe_lc (own := [("_law_out", 9)]) (g := gName 9)  (rfl) scLawMade.nd (pi_list (pe_ix (ix_listK (K := K) rfl) (pe_ix (ix_listK (K := K) rfl) (pv 0) pe_int (fun _ _ => rfl)) (pv 4) (fun _ _ => rfl))) (blkOk_by (own := [("_law_out", 9)]) (N := ["_law_one", "_law_kind", "_law_words_here", "_law_says", "_law_word", "_law_sure", "_law_loose", "_law_doubts", "_law_row_here", "_law_out"]) (sc := defScope sLawMade) (by decide +kernel)) (fun _ _ _ _ _ => pg_name (i := 9) scLawMade.nd rfl (Or.inl rfl)) (fun _ _ _ _ _ => (pts_one (pt_cmpR op_ne (pv 9) (pv 4) (nomark _)))) (fun _ _ _ _ _ => (pv 9))) (pg_sub (pv 3) (pv 4) set_list)))
          pss_nil))))
      (pss_cons (ps_if (PW.pt (pw_and (pt_cmpR op_eq (pv 1) pe_int (nomark _)) (pw_and1 (pt_not (pt_val (pv 7))))))
        (pss_one (ps_ret (pe_mk (k_Person T) hr (by decide) rfl (pa_cons (pv 2) (pa_cons (pv 3) pa_nil)))))
        pss_nil)
      (pss_cons (ps_if (pt_cmpR op_eq (pv 1) pe_int (nomark _))
        (pss_one (ps_ret (pe_mk (k_Doubter T) hr (by decide) rfl (pa_cons (pv 2) (pa_cons (pv 3) pa_nil)))))
        pss_nil)
      (pss_cons (ps_if (PW.pt (pw_and (pt_cmpR op_eq (pv 1) pe_int (nomark _)) (pw_and1 (pt_val (pv 7)))))
        (pss_one (ps_ret (pe_mk (k_KnowingDoubter Y PF) hr (by decide) rfl (pa_cons (pv 2) (pa_cons (pv 3) (pa_cons (pv 5) pa_nil))))))
        pss_nil)
      (pss_one (ps_ret (pe_mk (k_Knower Y PF) hr (by decide) rfl (pa_cons (pv 2) (pa_cons (pv 3) (pa_cons (pv 5) pa_nil)))))))))))))))), ?_⟩
    have n1 := tri.ok.n1
    have n3 := tri.ok.n3
    have la := tri.ok.la
    have ls := tri.ok.ls
    refine ⟨_, rfl, l, _, _, _, rfl, rfl, SqL.of hl, rfl, a, _, rfl, .inl (SqL.of ha), _, rfl, RgOk.of_le (by omega) (by rw [List.length_map]; omega) (by omega) (by rw [List.length_map]; omega), fun q hq => ?_⟩
    rw [List.length_map, la, rgV0]
    have e1 : Same H (L2.upd H q (nlst (List.range n))) := Same.upd (Same.refl _) hq
    have q1 : (L2.upd H q (nlst (List.range n))) q = some (nlst (List.range n)) := upd_same
    generalize L2.upd H q (nlst (List.range n)) = H1 at e1 q1 ⊢
    obtain ⟨lsS, hlS, hpS⟩ := id hs
    have hlsl : lsS.length = n := by
      have := hpS.1
      rw [List.length_map] at this
      omega
    refine ⟨_, rfl, l, _, _, _, rfl, rfl, SqL.of (e1 _ _ hl), rfl, s1, rfl, ⟨_, SqL.of (e1 _ _ hlS)⟩, fun D hD => ?_⟩
    have hDH : H D = none := e1.free hD
    refine lc_keep (walk_list (xs := lsS.map V.ref)) hD (fun i H' acc => ∃ ms : List Addr, acc = ms.map V.ref ∧ Pts H' ms ((S1.take i).map nlst) ∧ D ∉ ms) ⟨[], rfl, Pts.nil, by simp⟩ (fun H' e => SqL.of (e _ _ (e1 _ _ hlS))) ?_ ?_
    · rintro i v H4 H5 acc hi e hD1 ⟨ms, rfl, hm, hDm⟩ ⟨rfl, hv⟩
      rw [List.length_map] at hi
      have hiS : i < S1.length := by omega
      obtain ⟨b, hb, hB⟩ := hpS.get (i := i) (o := nlst S1[i]) (by simp [hiS])
      rw [List.getElem?_map, hb] at hv
      cases hv
      have hml : ms.length = i := by
        have := hm.1
        simp at this
        omega
      refine ⟨rfl, _, rfl, b, _, rfl, .inl (SqL.of (e _ _ (e1 _ _ hB))), fun t2 ht2 => PvK.more (acc := ms.map V.ref) hD (Same.upd e ht2) ?_ ?_ ⟨ms ++ [t2], by simp, ?_, ?_⟩⟩
      · rw [upd_ne (ne_of_none hD1 ht2)]
        exact hD1
      · rw [List.length_map, hml]
        omega
      · rw [take_get (List.getElem?_eq_getElem hiS), List.map_append]
        refine Pts.upd ((hm.same (Same.upd (Same.refl _) ht2)).snoc (by rw [upd_same]; rfl)) ?_
        intro z
        rcases List.mem_append.mp z with z | z
        · exact hDm z
        · have : D = t2 := List.mem_singleton.mp z
          rw [← this, hD1] at ht2
          cases ht2
      · intro z
        rcases List.mem_append.mp z with z | z
        · exact hDm z
        · have : D = t2 := List.mem_singleton.mp z
          rw [← this, hD1] at ht2
          cases ht2
    rintro H2 acc e2 hD2 ⟨ms, rfl, hm, hDm⟩
    rw [List.length_map, hlsl, ← ls, List.take_length] at hm
    have E2 : Same H H2 := e1.trans e2
    have q2 := e2 _ _ q1
    have hR2 : RowsAt H2 D S1 := ⟨ms, hD2, hm⟩
    have okA : PerOk A1.length A1 S1 := by rw [la]; exact tri.ok
    have outA : ∀ r ∈ S1, r ≠ [] ∧ ∀ o ∈ r, o < A1.length := fun r hr => ⟨(tri.outs r hr).1, by rw [la]; exact (tri.outs r hr).2.2⟩
    have pPer : PutK P w K mg base (ga K "Person") (At1 K (ga K "Person") pSaid) := putK Y (by simp) (kdPerson Y)
    have fin1 : ∀ {H3 : Hp} {Qk : VK} {E : XK} {l2 : Addr}, Same H H3 → H3 l2 = some (nlst A1) → RowsAt H3 D S1 → Qk = Q → ∀ x dx, H3 x = none → H3 dx = none → dx ≠ x → spPersonInit K (ga K "Person") (.ref x :: ([.ref l2, .ref D] ++ [])) (L2.upd (L2.upd H3 dx (.own x)) x (.ins (ga K "Person") dx [])) (fun v H2 => v = .non ∧ Qk (.ref x) H2) E := fun {H3 Qk E l2} e h1 h2 hQ => by
      subst hQ
      refine mkPer h1 h2 okA outA fun H' p e' hp => k H' p (e.trans e') ⟨_, _, pPer, A1, S1, ?_, tri.ok, fun _ _ => rfl⟩
      rw [la] at hp
      exact hp
    refine ⟨_, rfl, l, _, _, _, rfl, rfl, SqL.of (E2 _ _ hl), rfl, _, rfl, dL A1, dL (List.range n), dpL (E2 _ _ ha), dpL q2, shL _, shL _, _, rfl, ?_⟩
    rw [eqvL]
    by_cases hA : A1 = List.range n
    rotate_left
    · rw [decide_eq_false hA]
      refine iteT (iteT ⟨_, rfl, l, _, _, _, rfl, rfl, SqL.of (E2 _ _ hl), rfl, a, _, rfl, .inl (SqL.of (E2 _ _ ha)), fun l2 hl2 => ?_⟩)
      exact ⟨_, rfl, fin1 (Same.upd E2 hl2) upd_same (hR2.same (Same.upd (Same.refl _) hl2)) rfl⟩
    rw [decide_eq_true hA]
    have eW : ∀ i, i < n → pSaid n A1 S1 i = wR n S1 i := fun i hi => by
      rw [hA]
      exact pSaid_range hi
    refine iteF ⟨_, rfl, rfl, _, rfl, ?_⟩
    rw [dec_int]
    cases hk0 : ((kd : Nat) : Int) == 0 with
    | true =>
      refine iteT ⟨_, rfl, l, _, _, _, rfl, rfl, SqL.of (E2 _ _ hl), rfl, a, _, rfl, .inl (SqL.of (E2 _ _ ha)), fun l2 hl2 => ?_⟩
      exact ⟨_, rfl, fin1 (Same.upd E2 hl2) upd_same (hR2.same (Same.upd (Same.refl _) hl2)) rfl⟩
    | false =>
    have hk1 : 1 ≤ kd := by
      have := beq_eq_false_iff_ne.mp hk0
      omega
    obtain ⟨lr, hlr, hpr⟩ := id hrr
    have rowAt : ∀ i, i < n → ∃ x, lr[i]? = some x ∧ H x = some (nlst (wR n S1 i)) := fun i hi => by
      obtain ⟨x, h1, h2⟩ := hpr.get (i := i) (o := nlst (pSaid n A1 S1 i)) (by
        unfold rowsOf
        rw [List.getElem?_map, List.getElem?_map, List.getElem?_range hi]
        rfl)
      exact ⟨x, h1, by rw [← eW i hi]; exact h2⟩
    have n1000 : ∀ {p : Nat → Bool} {i : Nat}, (((List.range i).filter p).map nV).length ≤ i := fun {p i} => by
      rw [List.length_map]
      have := List.length_filter_le p (List.range i)
      rw [List.length_range] at this
      exact this
    have fstep : ∀ (p : Nat → Bool) (i : Nat), (List.range (i + 1)).filter p = (List.range i).filter p ++ (if p i = true then [i] else []) := fun p i => by
      rw [List.range_succ, List.filter_append, List.filter_cons]
      rfl
    refine iteF ⟨_, rfl, q, rfl, ⟨_, SqL.of q2⟩, fun su hsu => ?_⟩
    refine lc_keep (walk_list (xs := (List.range n).map nV)) hsu (fun i _ acc => acc = ((List.range i).filter (sureB n S1)).map nV) rfl (fun H' e => SqL.of (e _ _ q2)) ?_ ?_
    · rintro i v H4 H5 acc hi e hD1 rfl ⟨rfl, hv⟩
      rw [List.length_map, List.length_range] at hi
      rw [List.getElem?_map, List.getElem?_range hi] at hv
      cases hv
      obtain ⟨x, hx1, hx2⟩ := rowAt i hi
      have E4 := E2.trans e
      refine ⟨rfl, _, rfl, l, _, _, _, rfl, rfl, SqL.of (E4 _ _ hl), rfl, _, rfl, r, _, _, .ref x, rfl, rfl, SqL.of (E4 _ _ hlr), atI_nat (by rw [List.getElem?_map, hx1]; rfl), _, rfl, by show 1 ≤ sizeLine; decide, fun b hb => ?_⟩
      have e5 := Same.upd (o := .lst [nV i]) e hb
      have d5 : (L2.upd H5 b (.lst [nV i])) su = some (.lst (((List.range i).filter (sureB n S1)).map nV)) := by
        rw [upd_ne (ne_of_none hD1 hb)]
        exact hD1
      refine ⟨dL (wR n S1 i), dL [i], dpL (Same.upd E4 hb _ _ hx2), dpL upd_same, shL _, shL _, _, rfl, ?_⟩
      rw [eqvL]
      have er := fstep (sureB n S1) i
      show if sureB n S1 i = true then _ else _
      cases hsb : sureB n S1 i with
      | true =>
        rw [hsb, if_pos rfl] at er
        refine iteT ⟨_, rfl, PvK.more hsu e5 d5 (Nat.lt_of_le_of_lt n1000 (by omega)) ?_⟩
        rw [er, List.map_append]
        rfl
      | false =>
        rw [hsb, if_neg Bool.false_ne_true, List.append_nil] at er
        refine iteF ⟨_, e5, d5, ?_⟩
        show _ = List.map nV (List.filter _ (List.range (i + 1)))
        rw [er]
    rintro H3 acc e3 hsu3 rfl
    rw [List.length_map, List.length_range] at hsu3
    have hsu3' : H3 su = some (nlst (sureL n S1)) := hsu3
    have E3 := E2.trans e3
    have q3 := e3 _ _ q2
    refine ⟨_, rfl, q, rfl, ⟨_, SqL.of q3⟩, fun lo hlo => ?_⟩
    refine lc_keep (walk_list (xs := (List.range n).map nV)) hlo (fun i _ acc => acc = ((List.range i).filter (looseB n S1)).map nV) rfl (fun H' e => SqL.of (e _ _ q3)) ?_ ?_
    · rintro i v H4 H5 acc hi e hD1 rfl ⟨rfl, hv⟩
      rw [List.length_map, List.length_range] at hi
      rw [List.getElem?_map, List.getElem?_range hi] at hv
      cases hv
      obtain ⟨x, hx1, hx2⟩ := rowAt i hi
      have E4 := E3.trans e
      have er := fstep (looseB n S1) i
      have no : looseB n S1 i = false → PvK H3 lo (fun i _ acc => acc = ((List.range i).filter (looseB n S1)).map nV) (i + 1) H5 := fun hlb => by
        rw [hlb, if_neg Bool.false_ne_true, List.append_nil] at er
        refine ⟨_, e, hD1, ?_⟩
        show _ = List.map nV (List.filter _ (List.range (i + 1)))
        rw [er]
      refine ⟨rfl, _, rfl, _, rfl, l, _, _, _, rfl, rfl, SqL.of (E4 _ _ hl), rfl, _, rfl, r, _, _, .ref x, rfl, rfl, SqL.of (E4 _ _ hlr), atI_nat (by rw [List.getElem?_map, hx1]; rfl), x, _, rfl, .inl (SqL.of (E4 _ _ hx2)), rfl, flat_nat _, _, rfl, ?_⟩
      show if inV (nV i) ((wR n S1 i).map nV) = true then _ else _
      rw [inV_nat]
      cases h1 : decide (i ∈ wR n S1 i) with
      | false =>
        exact iteF (iteF (no (by unfold looseB; rw [h1]; rfl)))
      | true =>
        refine iteT ⟨_, rfl, _, rfl, su, _, rfl, .inl (SqL.of (e _ _ hsu3)), rfl, flat_nat _, _, rfl, ?_⟩
        have ei : inV (nV i) (((List.range n).filter (sureB n S1)).map nV) = sureB n S1 i := by
          rw [inV_nat]
          cases hsb : sureB n S1 i with
          | true => exact decide_eq_true ((sure_iff hi).mpr hsb)
          | false => exact decide_eq_false fun z => by rw [(sure_iff hi).mp z] at hsb; cases hsb
        show if (!inV (nV i) (((List.range n).filter (sureB n S1)).map nV)) = true then _ else _
        rw [ei]
        cases hsb : sureB n S1 i with
        | true =>
          exact iteF (no (by unfold looseB; rw [hsb, Bool.not_true, Bool.and_false]))
        | false =>
          have hlb : looseB n S1 i = true := by unfold looseB; rw [h1, hsb]; rfl
          rw [hlb, if_pos rfl] at er
          refine iteT ⟨_, rfl, PvK.more hlo e hD1 (Nat.lt_of_le_of_lt n1000 (by omega)) ?_⟩
          rw [er, List.map_append]
          rfl
    rintro H4 acc e4 hlo4 rfl
    rw [List.length_map, List.length_range] at hlo4
    have hlo4' : H4 lo = some (nlst (looseL n S1)) := hlo4
    have E4 := E3.trans e4
    have q4 := e4 _ _ q3
    have su4 : H4 su = some (nlst (sureL n S1)) := e4 _ _ hsu3'
    have hR4 : RowsAt H4 D S1 := (hR2.same e3).same e4
    refine ⟨_, rfl, su, _, rfl, .inl (SqL.of su4), _, rfl, lo, _, rfl, .inl (SqL.of hlo4'), _, _, rfl, rfl, _, rfl, q, _, rfl, .inl (SqL.of q4), rfl, _, rfl, ?_⟩
    rw [List.length_map, List.length_map, List.length_map, List.length_range]
    have edb : decide (V.int ((((sureL n S1).length : Nat) : Int) + (((looseL n S1).length : Nat) : Int)) = V.int ((n : Nat) : Int)) = doubtB n S1 := by
      unfold doubtB
      apply decide_eq_decide.mpr
      constructor
      · intro z
        injection z with z
        omega
      · intro z
        congr 1
        omega
    have sig : ∀ (x : Option V), x = some (.bl (doubtB n S1)) → [some (V.ref l), some (nV kd), some (V.ref q), some (V.ref D), none, some (V.ref su), some (V.ref lo), x, none, none] = [some (V.ref l), some (nV kd), some (V.ref q), some (V.ref D), none, some (V.ref su), some (V.ref lo), some (.bl (doubtB n S1)), none, none] := fun x h => by rw [h]
    have qD : q ≠ D := ne_of_none q1 hD
    have suD : D ≠ su := ne_of_none hD2 hsu
    have loD : D ≠ lo := ne_of_none (e3 _ _ hD2) hlo
    obtain ⟨ms, hD4, hm4⟩ := id hR4
    have hDm4 : D ∉ ms := Pts.notin hm4 hD4 fun u hu z => by
      obtain ⟨rr, hrr, rfl⟩ := List.mem_map.mp hu
      have hne := (tri.outs rr hrr).1
      exact nl_refs hne z
    have put : ∀ (H7 : Hp) (ms : List Addr) (T : List (List Nat)) (x : Addr) (Y : List Nat) (j : Nat), Same H H7 → H7 q = some (nlst (List.range n)) → H7 su = some (nlst (sureL n S1)) → H7 lo = some (nlst (looseL n S1)) → H7 D = some (.lst (ms.map V.ref)) → Pts H7 ms (T.map nlst) → D ∉ ms → H7 x = some (nlst Y) → D ≠ x →
        Same H (L2.upd H7 D (.lst ((ms.map V.ref).set j (.ref x)))) ∧ (L2.upd H7 D (.lst ((ms.map V.ref).set j (.ref x)))) q = some (nlst (List.range n)) ∧ (L2.upd H7 D (.lst ((ms.map V.ref).set j (.ref x)))) su = some (nlst (sureL n S1)) ∧ (L2.upd H7 D (.lst ((ms.map V.ref).set j (.ref x)))) lo = some (nlst (looseL n S1)) ∧
        (L2.upd H7 D (.lst ((ms.map V.ref).set j (.ref x)))) D = some (.lst ((ms.set j x).map V.ref)) ∧ Pts (L2.upd H7 D (.lst ((ms.map V.ref).set j (.ref x)))) (ms.set j x) ((T.set j Y).map nlst) ∧ D ∉ ms.set j x := by
      intro H7 ms T x Y j e hq hsu hlo hD hp hDm hx hDx
      have hDs : D ∉ ms.set j x := fun z => by
        rcases List.mem_or_eq_of_mem_set z with z | z
        · exact hDm z
        · exact hDx z
      refine ⟨Same.updn e hDH, by rw [upd_ne qD]; exact hq, by rw [upd_ne suD.symm]; exact hsu, by rw [upd_ne loD.symm]; exact hlo, by rw [upd_same, map_set], ?_, hDs⟩
      rw [map_set]
      exact (hp.set hx).upd hDs
    refine ⟨q, rfl, ⟨_, SqL.of q4⟩, for_it (walk_list (xs := (List.range n).map nV)) (fun j σ H' => ∃ (ms : List Addr) (z4 z8 z9 : Option V), σ = [some (.ref l), some (nV kd), some (.ref q), some (.ref D), z4, some (.ref su), some (.ref lo), some (.bl (doubtB n S1)), z8, z9] ∧ Same H H' ∧ H' q = some (nlst (List.range n)) ∧ H' su = some (nlst (sureL n S1)) ∧ H' lo = some (nlst (looseL n S1)) ∧ H' D = some (.lst (ms.map V.ref)) ∧ Pts H' ms ((newS n S1 kd j).map nlst) ∧ D ∉ ms)
      ⟨ms, none, none, none, sig _ (congrArg (fun b => some (V.bl b)) edb), E4, q4, su4, hlo4', hD4, by rw [newS_zero ls]; exact hm4, hDm4⟩ (fun j σ H' _ ⟨ms, z4, z8, z9, h1, h2, h3, _⟩ => SqL.of h3) ?_ ?_⟩
    · rintro j v σ H5 H6 hj ⟨ms, z4, z8, z9, rfl, e5, q5, su5, lo5, D5, m5, hDm5⟩ ⟨rfl, hv⟩
      rw [List.length_map, List.length_range] at hj
      rw [List.getElem?_map, List.getElem?_range hj] at hv
      cases hv
      have hml : ms.length = n := by rw [m5.1, List.length_map, newS_len]
      -- the state after the first test
      refine ⟨fun σ H' => ∃ (ms : List Addr) (X : List Nat), σ = [some (.ref l), some (nV kd), some (.ref q), some (.ref D), some (nV j), some (.ref su), some (.ref lo), some (.bl (doubtB n S1)), z8, z9] ∧ Same H H' ∧ H' q = some (nlst (List.range n)) ∧ H' su = some (nlst (sureL n S1)) ∧ H' lo = some (nlst (looseL n S1)) ∧ H' D = some (.lst (ms.map V.ref)) ∧ Pts H' ms (((newS n S1 kd j).set j X).map nlst) ∧ D ∉ ms ∧ X = (if sureB n S1 j = true ∧ kd ≠ 2 then List.range n else S1.getD j []), ?_, ?_⟩
      · have ei : inV (nV j) ((sureL n S1).map nV) = sureB n S1 j := by
          rw [inV_nat]
          cases hsb : sureB n S1 j with
          | true => exact decide_eq_true ((sure_iff hj).mpr hsb)
          | false => exact decide_eq_false fun z => by rw [(sure_iff hj).mp z] at hsb; cases hsb
        have stay : ∀ H', H' = H6 → ¬ (sureB n S1 j = true ∧ kd ≠ 2) → ∃ (ms : List Addr) (X : List Nat), [some (V.ref l), some (nV kd), some (.ref q), some (.ref D), some (nV j), some (.ref su), some (.ref lo), some (.bl (doubtB n S1)), z8, z9] = [some (V.ref l), some (nV kd), some (.ref q), some (.ref D), some (nV j), some (.ref su), some (.ref lo), some (.bl (doubtB n S1)), z8, z9] ∧ Same H H' ∧ H' q = some (nlst (List.range n)) ∧ H' su = some (nlst (sureL n S1)) ∧ H' lo = some (nlst (looseL n S1)) ∧ H' D = some (.lst (ms.map V.ref)) ∧ Pts H' ms (((newS n S1 kd j).set j X).map nlst) ∧ D ∉ ms ∧ X = (if sureB n S1 j = true ∧ kd ≠ 2 then List.range n else S1.getD j []) := by
          rintro H' rfl hno
          refine ⟨ms, S1.getD j [], rfl, e5, q5, su5, lo5, D5, ?_, hDm5, by rw [if_neg hno]⟩
          have : (newS n S1 kd j).set j (S1.getD j []) = newS n S1 kd j := by
            apply List.ext_getElem?
            intro i
            by_cases hij : j = i
            · subst hij
              rw [List.getElem?_set_self (by rw [newS_len]; exact hj), getD_at (d := []) (by rw [newS_len]; exact hj), newS_getD hj, if_neg (Nat.lt_irrefl _)]
            · rw [List.getElem?_set_ne hij]
          rw [this]
          exact m5
        refine ⟨_, rfl, _, rfl, su, _, rfl, .inl (SqL.of su5), rfl, flat_nat _, _, rfl, ?_⟩
        show if inV (nV j) ((sureL n S1).map nV) = true then _ else _
        rw [ei]
        cases hsb : sureB n S1 j with
        | false =>
          refine iteF (iteF ?_)
          rw [hsb] at stay
          exact stay _ rfl (fun z => absurd z.1 Bool.false_ne_true)
        | true =>
          refine iteT ⟨_, rfl, rfl, _, rfl, ?_⟩
          by_cases hk2 : kd = 2
          · subst hk2
            refine iteNS rfl ?_
            rw [hsb] at stay
            exact stay _ rfl (fun z => z.2 rfl)
          · have hne : (!decide (nV kd = V.int 2)) = true := by
              rw [decide_eq_false]
              · rfl
              · intro z
                injection z with z
                omega
            rw [hne]
            refine iteT ⟨_, rfl, q, _, rfl, .inl (SqL.of q5), fun x hx => ?_⟩
            have e6 := Same.upd (o := .lst ((List.range n).map nV)) e5 hx
            have hDx : D ≠ x := ne_of_none D5 hx
            have sx : ∀ {b : Addr} {o : HO}, H6 b = some o → (L2.upd H6 x (.lst ((List.range n).map nV))) b = some o := fun h => by rw [upd_ne (ne_of_none h hx)]; exact h
            obtain ⟨p1, p2, p3, p4, p5, p6, p7⟩ := put (L2.upd H6 x (.lst ((List.range n).map nV))) ms _ x (List.range n) j e6 (sx q5) (sx su5) (sx lo5) (sx D5) (m5.same (Same.upd (Same.refl _) hx)) hDm5 upd_same hDx
            exact ⟨_, rfl, _, rfl, D, _, _, j, rfl, rfl, sx D5, by rw [List.length_map, hml]; exact ixNn hj, ms.set j x, List.range n, rfl, p1, p2, p3, p4, p5, p6, p7, by rw [if_pos ⟨rfl, hk2⟩]⟩
      · rintro σ H7 ⟨ms, X, rfl, e7, q7, su7, lo7, D7, m7, hDm7, hX⟩
        have hml : ms.length = n := by rw [m7.1, List.length_map, List.length_set, newS_len]
        have ei : inV (nV j) ((looseL n S1).map nV) = looseB n S1 j := by
          rw [inV_nat]
          cases hsb : looseB n S1 j with
          | true => exact decide_eq_true ((loose_iff hj).mpr hsb)
          | false => exact decide_eq_false fun z => by rw [(loose_iff hj).mp z] at hsb; cases hsb
        have stay : ¬ (looseB n S1 j = true ∧ doubtB n S1 = true ∧ 1 < kd) → (newS n S1 kd j).set j X = newS n S1 kd (j + 1) := fun hno => by
          rw [← newS_step hj, hX]
          unfold saysW
          rw [if_neg hno]
        refine ⟨_, rfl, _, rfl, lo, _, rfl, .inl (SqL.of lo7), rfl, flat_nat _, _, rfl, ?_⟩
        show if inV (nV j) ((looseL n S1).map nV) = true then _ else _
        rw [ei]
        cases hlb : looseB n S1 j with
        | false =>
          refine iteF (iteF ?_)
          rw [stay (fun z => by rw [hlb] at z; exact Bool.false_ne_true z.1)] at m7
          exact ⟨ms, _, _, _, rfl, e7, q7, su7, lo7, D7, m7, hDm7⟩
        | true =>
          refine iteT ⟨_, rfl, _, rfl, ?_⟩
          cases hdb : doubtB n S1 with
          | false =>
            refine iteF (iteF ?_)
            rw [stay (fun z => by rw [hdb] at z; exact Bool.false_ne_true z.2.1)] at m7
            exact ⟨ms, _, _, _, rfl, e7, q7, su7, lo7, D7, m7, hDm7⟩
          | true =>
            refine iteT ⟨_, rfl, _, _, rfl, rfl, _, rfl, ?_⟩
            cases hgt : decide ((1 : Int) < ((kd : Nat) : Int)) with
            | false =>
              have hgt' := of_decide_eq_false hgt
              refine iteF ?_
              rw [stay (fun z => hgt' (by omega))] at m7
              exact ⟨ms, _, _, _, rfl, e7, q7, su7, lo7, D7, m7, hDm7⟩
            | true =>
              have hgt' := of_decide_eq_true hgt
              obtain ⟨x, hx1, hx2⟩ := rowAt j hj
              have x7 := e7 _ _ hx2
              refine iteT ⟨_, rfl, l, _, _, _, rfl, rfl, SqL.of (e7 _ _ hl), rfl, _, rfl, r, _, _, .ref x, rfl, rfl, SqL.of (e7 _ _ hlr), atI_nat (by rw [List.getElem?_map, hx1]; rfl), x, rfl, ⟨_, SqL.of x7⟩, fun D2 hD2 => ?_⟩
              refine lc_keep (walk_list (xs := (wR n S1 j).map nV)) hD2 (fun i _ acc => acc = (((wR n S1 j).take i).filter fun o => decide (o ≠ j)).map nV) rfl (fun H' e => SqL.of (e _ _ x7)) ?_ ?_
              · rintro i v H8 H9 acc hi e hD1 rfl ⟨rfl, hv⟩
                rw [List.length_map] at hi
                rw [List.getElem?_map, List.getElem?_eq_getElem hi] at hv
                cases hv
                refine ⟨rfl, _, rfl, _, rfl, rfl, _, rfl, ?_⟩
                have er : ((wR n S1 j).take (i + 1)).filter (fun o => decide (o ≠ j)) = ((wR n S1 j).take i).filter (fun o => decide (o ≠ j)) ++ (if (wR n S1 j)[i] = j then [] else [(wR n S1 j)[i]]) := by
                  rw [take_get (List.getElem?_eq_getElem hi), List.filter_append, List.filter_cons]
                  by_cases h : (wR n S1 j)[i] = j
                  · simp [h]
                  · simp [h]
                by_cases h : (wR n S1 j)[i] = j
                · rw [if_pos h, List.append_nil] at er
                  refine iteNS (by rw [h]) ⟨_, e, hD1, ?_⟩
                  show _ = List.map nV (List.filter _ ((wR n S1 j).take (i + 1)))
                  rw [er]
                · rw [if_neg h] at er
                  have hne : (!decide (nV (wR n S1 j)[i] = nV j)) = true := by
                    rw [decide_eq_false]
                    · rfl
                    · intro z
                      injection z with z
                      omega
                  rw [hne]
                  refine iteT ⟨_, rfl, PvK.more hD2 e hD1 ?_ ?_⟩
                  · rw [List.length_map]
                    have h1 := List.length_filter_le (fun o => decide (o ≠ j)) ((wR n S1 j).take i)
                    have h2 : (wR n S1 j).length ≤ n := by
                      have := List.length_filter_le (fun o => decide (o ∈ S1.getD j [])) (List.range n)
                      rw [List.length_range] at this
                      exact this
                    rw [List.length_take] at h1
                    omega
                  · rw [er, List.map_append]
                    rfl
              rintro H8 acc e8 hD8 rfl
              rw [List.length_map, List.take_length] at hD8
              have DD2 : D ≠ D2 := ne_of_none D7 hD2
              obtain ⟨p1, p2, p3, p4, p5, p6, p7⟩ := put H8 ms _ D2 ((wR n S1 j).filter fun o => decide (o ≠ j)) j (e7.trans e8) (e8 _ _ q7) (e8 _ _ su7) (e8 _ _ lo7) (e8 _ _ D7) (m7.same e8) hDm7 hD8 DD2
              rw [List.set_set] at p6
              have hY : saysW n S1 kd j = (wR n S1 j).filter fun o => decide (o ≠ j) := by
                unfold saysW
                rw [if_pos ⟨hlb, hdb, by omega⟩]
              rw [← hY, newS_step hj] at p6
              exact ⟨_, rfl, _, rfl, D, _, _, j, rfl, rfl, e8 _ _ D7, by rw [List.length_map, hml]; exact ixNn hj, ms.set j D2, _, _, _, rfl, p1, p2, p3, p4, p5, p6, p7⟩
    · rintro σ H5 ⟨ms, z4, z8, z9, rfl, e5, q5, su5, lo5, D5, m5, hDm5⟩
      rw [List.length_map, List.length_range] at m5
      have hR5 : RowsAt H5 D (newS n S1 kd n) := ⟨ms, D5, m5⟩
      have lr : (List.range n).length = n := List.length_range
      have ok5 : PerOk n (List.range n) (newS n S1 kd n) := ⟨n1, n3, lr, newS_len, fun a ha => List.mem_range.mp ha⟩
      have out5 : ∀ r ∈ newS n S1 kd n, r ≠ [] ∧ ∀ o ∈ r, o < n := new_outs n1 (fun r hr => ⟨(tri.outs r hr).1, (tri.outs r hr).2.2⟩) ls fun i hi => by
        rw [← eW i hi]
        exact pSaid_ne tri hi
      have ok6 : PerOk (List.range n).length (List.range n) (newS n S1 kd n) := by rw [lr]; exact ok5
      have out6 : ∀ r ∈ newS n S1 kd n, r ≠ [] ∧ ∀ o ∈ r, o < (List.range n).length := by rw [lr]; exact out5
      have sl6 : ∀ k ∈ sureL n S1, k < (List.range n).length := by rw [lr]; exact sureL_lt
      have pDo : PutK P w K mg base (ga K "Doubter") (At1 K (ga K "Doubter") dSaid) := putK Y (by simp) (kdDoubter Y PF)
      have pKn : PutK P w K mg base (ga K "Knower") (At2 K (ga K "Knower") pSaid) := putK Y (by simp) (kdKnower Y PF)
      have pKD : PutK P w K mg base (ga K "KnowingDoubter") (At2 K (ga K "KnowingDoubter") dSaid) := putK Y (by simp) (kdKD Y PF)
      have kno : ¬ (1 < kd ∧ doubtB n S1 = true) → ∀ x dx, H5 x = none → H5 dx = none → dx ≠ x → spKnowerInit K (ga K "Knower") (.ref x :: ([.ref q, .ref D, .ref su] ++ [])) (L2.upd (L2.upd H5 dx (.own x)) x (.ins (ga K "Knower") dx [])) (fun v H2 => v = .non ∧ Q (.ref x) H2) C8.E0 := fun hno =>
        mkKno q5 hR5 su5 ok6 out6 sl6 fun H' p t e' hp ht => k H' p (e5.trans e') ⟨_, _, pKn, List.range n, _, t, _, by rw [lr] at hp; exact hp, ht, ok5, fun i hi => by rw [eW i hi]; exact made_knower hno hi⟩
      rcases (show kd = 1 ∨ kd = 2 ∨ kd = 3 by omega) with h | h | h
      · subst h
        refine ⟨_, rfl, rfl, _, rfl, goF rfl (goF rfl ⟨_, rfl, rfl, _, rfl, goF rfl ⟨_, rfl, rfl, _, rfl, goF rfl (goF rfl ⟨_, rfl, _, rfl, _, rfl, ?_⟩)⟩⟩)⟩
        exact kno (fun z => by omega)
      · subst h
        cases hdb : doubtB n S1 with
        | false =>
          refine ⟨_, rfl, rfl, _, rfl, goT rfl ⟨_, rfl, false, rfl, goT rfl ⟨_, rfl, _, rfl, ?_⟩⟩⟩
          exact mkPer q5 hR5 ok6 out6 fun H' p e' hp => k H' p (e5.trans e') ⟨_, _, pPer, List.range n, _, by rw [lr] at hp; exact hp, ok5, fun i hi => by rw [eW i hi]; exact made_person hdb hi⟩
        | true =>
          refine ⟨_, rfl, rfl, _, rfl, goT rfl ⟨_, rfl, true, rfl, goF rfl ⟨_, rfl, rfl, _, rfl, goT rfl ⟨_, rfl, _, rfl, ?_⟩⟩⟩⟩
          exact mkPer q5 hR5 ok6 out6 fun H' p e' hp => k H' p (e5.trans e') ⟨_, _, pDo, List.range n, _, by rw [lr] at hp; exact hp, ok5, fun i hi => by rw [eW i hi]; exact made_doubter hdb hi⟩
      · subst h
        cases hdb : doubtB n S1 with
        | false =>
          refine ⟨_, rfl, rfl, _, rfl, goF rfl (goF rfl ⟨_, rfl, rfl, _, rfl, goF rfl ⟨_, rfl, rfl, _, rfl, goT rfl ⟨_, rfl, false, rfl, goF rfl ⟨_, rfl, _, rfl, _, rfl, ?_⟩⟩⟩⟩)⟩
          exact kno (fun z => by rw [hdb] at z; exact Bool.false_ne_true z.2)
        | true =>
          refine ⟨_, rfl, rfl, _, rfl, goF rfl (goF rfl ⟨_, rfl, rfl, _, rfl, goF rfl ⟨_, rfl, rfl, _, rfl, goT rfl ⟨_, rfl, true, rfl, goT rfl ⟨_, rfl, _, rfl, _, rfl, ?_⟩⟩⟩⟩)⟩
          exact mkKno q5 hR5 su5 ok6 out6 sl6 fun H' p t e' hp ht => k H' p (e5.trans e') ⟨_, _, pKD, List.range n, _, t, _, by rw [lr] at hp; exact hp, ht, ok5, fun i hi => by rw [eW i hi]; exact made_kd hdb hi⟩
end
end Mz
namespace Mz
open PySem PySem.Spec PyProof.Rows L2 He C8
def spLawCast (K : PySem.W.Frag) : Sp := fun vs H Q _ => ∃ (l n : Nat) (E : List Ent), vs = [nV n, .ref l] ∧ FolksAt n H l E ∧ 1 ≤ n ∧ n ≤ 3 ∧ E.length ≤ 4 ∧ (E.map (·.1)).Nodup ∧ (∀ e ∈ E, e.1 ∈ abc) ∧
  ∀ H' x d F, Same H H' → CastAt K H' x d n (tbE n E) F → F.map (·.1) = E.map (·.1) → Q (.ref x) H'
theorem CastAt.congr {K : PySem.W.Frag} {H : Hp} {x d : Addr} {n : Nat} {tb tb' : Nat → List Nat} {F : List (Nat × Addr)} (h : CastAt K H x d n tb F) (e : ∀ c ∈ F.map (·.1), tb c = tb' c) : CastAt K H x d n tb' F := by
  obtain ⟨dx, r, h1, h2, h3, h4, h5⟩ := h
  exact ⟨dx, r, h1, h2, h3, fun p hp => by rw [← e _ (List.mem_map_of_mem hp)]; exact h4 p hp, ⟨h5.n1, h5.n3, h5.nd, h5.abc, h5.few, fun c hc => by rw [← e c hc]; exact h5.rel c hc⟩⟩
theorem mkM_get {n : Nat} {A : List Nat} {S : List (List Nat)} {q : Nat} (n3 : n ≤ 3) (hq : q < n) : Mu.bitsL ((mkM n A S).getD q 0) = pSaid n A S q := by
  unfold mkM
  rw [List.getD_eq_getElem?_getD, List.getElem?_map, List.getElem?_range hq]
  exact (filt_mask n3 _).2
section
variable {P : Program} {w : World} {K : PySem.W.Frag} {mg : Str → Option Value} {base : Heap}
theorem m_Cast_put (T : Tx K mg) : Met P w K mg base 9 (ga K "Cast") "put" (spPutAll P w K mg base) [] := by
  obtain ⟨fd, F, b⟩ := f_Cast_put (P := P) (w := w) (base := base) T
  exact ⟨_, fd, _, [], T.c_Cast, T.h_Cast_put, F.mono (by decide), b, .nil⟩
theorem scLawCast : FnScope ["_law_n", "_law_folk", "_law_cast_here", "_law_one", "_law_kind"] ["_law_n", "_law_folk"] (defScope sLawCast) := fnScope_by (by decide +kernel)
theorem c__law_cast (Y : Ty K mg) (PF : PFile P fileM) : Cal P w K mg base 10 "_law_cast" (spLawCast K) [] := by
  have T := Y.t
  refine calD T.d__law_cast T.g__law_cast scLawCast (fun _ _ _ _ _ _ us hl => match us, hl with | [_, _], _ => rfl) (fun vs H Q E h => ?_) (fun cdv A outer s H vs Q E hr h => ?_)
  · obtain ⟨_, _, _, rfl, _⟩ := h
    rfl
  · obtain ⟨l, n, E, rfl, hF, n1, n3, hE4, hEd, hEa, k⟩ := h
    have hu := hu_of hr
    refine ⟨_, (pss_cons (ps_set (i := 2) scLawCast.nd rfl (Or.inl rfl) (StX.pe_makeR (E := C8.E0) T.k_Cast (r_Cast_init T) (hr.mono (by decide)) rfl T.g_Cast C8.pass0 (pa_cons (pv 0) pa_nil)))
      (pss_cons (ps_for PassesOwn.never rfl (pi_list (pv 1)) (pg_name (i := 3) scLawCast.nd rfl (Or.inl rfl))
        (pss_cons (ps_set (i := 4) scLawCast.nd rfl (Or.inl rfl) (pe_op op_mod (pe_callTy call_int1 (by rfl) T.z_int (by decide +kernel) (pa_cons (pe_m1 PySem.F.slot_str_find PySem.F.type_str_find mt_find pe_str (pe_ix (ix_listK (K := K) rfl) (pv 3) pe_int (fun _ _ => rfl))) pa_nil)) pe_int))
        (pss_one (ps_expr (pe_mt (m_Cast_put T) hr (by decide) (pv 2) (pa_cons (pe_ix (ix_listK (K := K) rfl) (pv 3) pe_int (fun _ _ => rfl)) (pa_cons (pe_c (c__law_made Y PF) hr (by decide) rfl (pa_cons (pe_slice sl_list (pv 3) (po_some pe_int) po_none) (pa_cons (pv 4) pa_nil))) pa_nil)))))))
      (pss_one (ps_ret (pv 2))))), ?_⟩
    refine ⟨_, rfl, fun x dx hx hdx ne => ⟨rfl, fun pd hpd => ?_⟩⟩
    have e0 : Same H (L2.upd (L2.upd H dx (.own x)) x (.ins (ga K "Cast") dx [])) := Same.updn (Same.upd (Same.refl _) hdx) hx
    have x0 : (L2.upd (L2.upd H dx (.own x)) x (.ins (ga K "Cast") dx [])) x = some (.ins (ga K "Cast") dx []) := upd_same
    have e1 : Same H (L2.upd (L2.upd (L2.upd H dx (.own x)) x (.ins (ga K "Cast") dx [])) pd (.dK [])) := Same.updn e0 (e0.free hpd)
    refine ⟨x, dx, pd, n, rfl, by rw [upd_ne (ne_of_none x0 hpd)]; exact x0, upd_same, n1, n3, fun H2 d e2 hd2 hC2 => ⟨rfl, ?_⟩⟩
    have E2 : Same H H2 := fun b o hb => e2 b o (ne_of_none hb hx) (e1 b o hb)
    have hd0 : H d = none := e1.free hd2
    obtain ⟨ps, hps, hpl, hpe⟩ := id hF
    refine ⟨_, rfl, l, rfl, ⟨_, SqL.of (E2 _ _ hps)⟩, for_it (walk_list (xs := ps.map V.ref)) (fun i σ H' => ∃ (F : List (Nat × Addr)) (z3 z4 : Option V), σ = [some (nV n), some (.ref l), some (.ref x), z3, z4] ∧ Same H H' ∧ CastAt K H' x d n (tbE n E) F ∧ F.map (·.1) = (E.take i).map (·.1))
      ⟨[], none, none, rfl, E2, hC2.congr (fun c hc => by cases hc), rfl⟩ (fun i σ H' _ ⟨F, z3, z4, h1, h2, _⟩ => SqL.of (h2 _ _ hps)) ?_ ?_⟩
    · rintro i v σ H3 H4 hi ⟨F, z3, z4, rfl, e3, hC3, hF3⟩ ⟨rfl, hv⟩
      rw [List.length_map] at hi
      have hiE : i < E.length := by omega
      rw [List.getElem?_map, List.getElem?_eq_getElem hi] at hv
      cases hv
      obtain ⟨a, s2, r, hent, htri⟩ := (hpe i ps[i] E[i] (List.getElem?_eq_getElem hi) (List.getElem?_eq_getElem hiE)).same e3
      generalize ps[i] = p at hent
      have hFl : F.length = i := by
        have := congrArg List.length hF3
        rw [List.length_map, List.length_map, List.length_take] at this
        omega
      have hcF : E[i].1 ∉ F.map (·.1) := by
        rw [hF3]
        intro z
        have hs : (E.map (·.1)) = (E.take i).map (·.1) ++ (E.drop i).map (·.1) := by rw [← List.map_append, List.take_append_drop]
        have hmem : E[i].1 ∈ (E.drop i).map (·.1) := by
          rw [List.drop_eq_getElem_cons hiE, List.map_cons]
          exact List.mem_cons_self ..
        rw [hs] at hEd
        exact (List.nodup_append.mp hEd).2.2 _ z _ hmem rfl
      have htb : tbE n E E[i].1 = mkM n E[i].2.1 E[i].2.2 := tbE_at hEd (List.getElem_mem hiE)
      have hca : E[i].1 ∈ abc := hEa _ (List.getElem_mem hiE)
      refine ⟨⟨_, rfl⟩, _, rfl, p, _, _, _, rfl, rfl, SqL.of hent, rfl, _, _, rfl, rfl, .inl ⟨_, rfl, _, _, rfl, rfl, (show (0 : Int) < 4 by decide), ?_⟩⟩
      obtain ⟨kd, hkd, hk4⟩ := nat_of (m := 4) (Int.emod_nonneg (Txt.find (Str.ofString "abcdefghijklmnopqrstuvwxyz") ⟨#[E[i].1]⟩) (show (4 : Int) ≠ 0 by decide)) (Int.emod_lt_of_pos (Txt.find (Str.ofString "abcdefghijklmnopqrstuvwxyz") ⟨#[E[i].1]⟩) (show (0 : Int) < 4 by decide))
      show gName 4 (V.int (Txt.find (Str.ofString "abcdefghijklmnopqrstuvwxyz") ⟨#[E[i].1]⟩ % 4)) _ _ _
      rw [hkd]
      have hC3' := hC3
      obtain ⟨dxx, rr, hx3, hd3, hr3, ht3, fok⟩ := hC3'
      refine ⟨_, rfl, x, dxx, _, rfl, hx3, rfl, _, rfl, p, _, _, _, rfl, rfl, SqL.of hent, rfl, _, rfl, _, rfl, p, _, rfl, SqL.of hent, fun pl hpl2 => ⟨_, rfl, pl, a, s2, r, n, kd, E[i].2.1, E[i].2.2, rfl, ?_, htri.same (Same.upd (Same.refl _) hpl2), by omega, fun H5 pp e5 hMade => ?_⟩⟩
      · rw [upd_same]
        rfl
      · obtain ⟨C, At, hput, hAt⟩ := hMade
        have e45 : Same H4 H5 := fun b o hb => e5 b o (Same.upd (Same.refl _) hpl2 b o hb)
        refine ⟨C, At, hput, x, d, n, tbE n E, F, E[i].1, pp, _, mkM n E[i].2.1 E[i].2.2, rfl, hC3.same e45, hca, hcF, by omega, hAt, mkM_rel n3 _ _, fun q hq => ?_, fun H6 t s6 hC6 => ⟨F ++ [(E[i].1, t)], some (.ref p), some (nV kd), rfl, ?_, hC6.congr fun c hc => ?_, ?_⟩⟩
        · exact (mkM_get n3 hq).symm
        · intro b o hb
          exact s6 b o (ne_of_none hb hx) (ne_of_none hb hd0) (e45 b o (e3 b o hb))
        · unfold updT
          by_cases h : c = E[i].1
          · rw [if_pos h, h, htb]
          · rw [if_neg h]
        · rw [List.map_append, hF3, take_get (List.getElem?_eq_getElem hiE), List.map_append]
          rfl
    · rintro σ H3 ⟨F, z3, z4, rfl, e3, hC3, hF3⟩
      rw [List.length_map, hpl, List.take_length] at hF3
      exact ⟨_, rfl, k _ x d F e3 hC3 hF3⟩
end
end Mz
namespace Mz
open PySem PySem.Spec PyProof.Rows L2 He C8
/-! ### lots -/
abbrev kI (m : Nat) : Key := Sum.inl ((m : Nat) : Int)
theorem kI_inj : ∀ {A B : List Nat}, A.map kI = B.map kI → A = B
  | [], [], _ => rfl
  | [], b :: B, h => by cases h
  | a :: A, [], h => by cases h
  | a :: A, b :: B, h => by
    rw [List.map_cons, List.map_cons] at h
    injection h with h1 h2
    have h1 := Sum.inl.inj h1
    rw [kI_inj h2, show a = b by omega]
theorem kI_tup (M : List Nat) : HO.tup ((M.map kI).map kV) = ntup M := by
  rw [List.map_map]
  rfl
/-- the entries of a dict by masks -/
def calF (C : List (List Nat × List Nat)) : List (List Key × V) := C.map fun q => (q.1.map kI, V.str (SX.S q.2))
theorem calF_get (m : List Nat) : ∀ C : List (List Nat × List Nat), valV (calF C) (m.map kI) = (C.lookup m).map fun r => V.str (SX.S r)
  | [] => rfl
  | (l, a) :: C => by
    have ih := calF_get m C
    have e : calF ((l, a) :: C) = (l.map kI, V.str (SX.S a)) :: calF C := rfl
    by_cases h : l = m
    · subst h
      rw [e, valV_pos rfl, List.lookup_cons, beq_self_eq_true]
      rfl
    · rw [e, valV_neg (fun z => h (kI_inj z)), ih, List.lookup_cons]
      have : (m == l) = false := beq_eq_false_iff_ne.mpr (Ne.symm h)
      rw [this]
theorem lookL_none {α : Type} {c : List Nat} : ∀ {F : List (List Nat × α)}, c ∉ F.map (·.1) → F.lookup c = none
  | [], _ => rfl
  | (l, a) :: F, h => by
    rw [List.map_cons, List.mem_cons, not_or] at h
    rw [List.lookup_cons, beq_eq_false_iff_ne.mpr h.1]
    exact lookL_none h.2
theorem lookL_some {α : Type} {c : List Nat} : ∀ {F : List (List Nat × α)}, c ∈ F.map (·.1) → ∃ a, F.lookup c = some a ∧ (c, a) ∈ F
  | [], h => by cases h
  | (l, a) :: F, h => by
    rw [List.lookup_cons]
    cases hb : c == l with
    | true => exact ⟨a, rfl, by rw [beq_iff_eq.mp hb]; exact List.mem_cons_self ..⟩
    | false =>
      rw [List.map_cons, List.mem_cons] at h
      obtain ⟨b, h1, h2⟩ := lookL_some (h.resolve_left (beq_eq_false_iff_ne.mp hb))
      exact ⟨b, h1, List.mem_cons_of_mem _ h2⟩
theorem lookL_isSome {α : Type} {c : List Nat} {F : List (List Nat × α)} : (F.lookup c).isSome = decide (c ∈ F.map (·.1)) := by
  by_cases h : c ∈ F.map (·.1)
  · obtain ⟨a, e, _⟩ := lookL_some h
    rw [e, decide_eq_true h]
    rfl
  · rw [lookL_none h, decide_eq_false h]
    rfl
/-- the steps: the masks of each letter -/
def StepsAt (H : Hp) (st : Addr) (tb : Nat → List Nat) (S : List (Nat × Addr)) : Prop := H st = some (.dK (kvF V.ref S)) ∧ ∀ q ∈ S, H q.2 = some (ntup (tb q.1))
theorem StepsAt.same {H H' : Hp} {st : Addr} {tb : Nat → List Nat} {S : List (Nat × Addr)} (h : StepsAt H st tb S) (e : Same H H') : StepsAt H' st tb S := ⟨e _ _ h.1, fun q hq => e _ _ (h.2 q hq)⟩
structure SOk (n : Nat) (tb : Nat → List Nat) (S : List (Nat × Addr)) : Prop where
  n1 : 1 ≤ n
  n3 : n ≤ 3
  rel : ∀ c ∈ S.map (·.1), Mu.Rel n (tb c)
def LotAt (K : PySem.W.Frag) (H : Hp) (x n : Nat) (tb : Nat → List Nat) (S : List (Nat × Addr)) (C : List (List Nat × List Nat)) : Prop :=
  ∃ dx st t0 cd io, H x = some (.ins (ga K "Lot") dx [("steps", .ref st), ("start", .ref t0), ("called", .ref cd), ("in_order", .ref io)]) ∧ StepsAt H st tb S ∧ H t0 = some (ntup (Mu.idm n)) ∧ H cd = some (.dT (calF C))
theorem LotAt.same {K : PySem.W.Frag} {H H' : Hp} {x n : Nat} {tb : Nat → List Nat} {S : List (Nat × Addr)} {C : List (List Nat × List Nat)} (h : LotAt K H x n tb S C) (e : Same H H') : LotAt K H' x n tb S C := by
  obtain ⟨dx, st, t0, cd, io, h1, h2, h3, h4⟩ := h
  exact ⟨dx, st, t0, cd, io, e _ _ h1, h2.same e, e _ _ h3, e _ _ h4⟩
def spLotMasksAfter (K : PySem.W.Frag) : Sp := fun vs H Q _ => ∃ (x t n : Nat) (tb : Nat → List Nat) (S : List (Nat × Addr)) (C : List (List Nat × List Nat)) (M R : List Nat), vs = [.ref x, .ref t, .str (SX.S R)] ∧ LotAt K H x n tb S C ∧ SOk n tb S ∧ H t = some (ntup M) ∧ Mu.Rel n M ∧ (∀ c ∈ R, c ∈ S.map (·.1)) ∧
  ∀ H' u, Same H H' → H' u = some (ntup (Mu.after tb M R)) → Q (.ref u) H'
def spLotLeast (K : PySem.W.Frag) : Sp := fun vs H Q _ => ∃ (x n : Nat) (tb : Nat → List Nat) (S : List (Nat × Addr)) (C : List (List Nat × List Nat)) (R w : List Nat), vs = [.ref x, .str (SX.S R)] ∧ LotAt K H x n tb S C ∧ SOk n tb S ∧ (∀ c ∈ R, c ∈ S.map (·.1)) ∧ C.lookup (Mu.after tb (Mu.idm n) R) = some w ∧
  ∀ H', Same H H' → Q (.str (SX.S w)) H'
section
variable {P : Program} {w : World} {K : PySem.W.Frag} {mg : Str → Option Value} {base : Heap}
theorem scLotMasksAfter : FnScope ["self", "masks", "row", "place", "letter"] ["self", "masks", "row"] (defScope sLot_MasksAfter) := fnScope_by (by decide +kernel)
theorem f_Lot_masks_after (T : Tx K mg) : ∃ fd, FnOk P w K mg base C8.CX0 3 (ma K (ga K "Lot") "masks_after") fd ["self", "masks", "row"] (spLotMasksAfter K) ∧ Binds K fd ["self", "masks", "row"] [] := by
  refine fnM T.m_Lot_masks_after scLotMasksAfter (fun _ _ _ _ _ _ us hl => match us, hl with | [_, _, _], _ => rfl) (fun vs H Q E h => ?_) (fun cdv A outer s H vs Q E hr h => ?_)
  · obtain ⟨_, _, _, _, _, _, _, _, rfl, _⟩ := h
    rfl
  · obtain ⟨x, t, n, tb, S, C, M, R, rfl, hL, sok, ht, hM, hR, k⟩ := h
    have hu := hu_of hr
    refine ⟨_, (pss_cons (ps_for PassesOwn.never rfl (pi_enumS (by rfl) T.z_enumerate (pa_cons (pv 2) pa_nil)) (pg_tup rfl (pgs_cons (pg_name (i := 3) scLotMasksAfter.nd rfl (Or.inl rfl)) (pgs_cons (pg_name (i := 4) scLotMasksAfter.nd rfl (Or.inl rfl)) pgs_nil)))
        (pss_cons (ps_if (pt_cmp (pc_dnotin hu (pv 4) (pe_fldK (K := K) rfl (pv 0) rfl)))
          (pss_one ps_never)
          pss_nil)
        (pss_one (ps_set (i := 1) scLotMasksAfter.nd rfl (Or.inl rfl) (pe_c (c_product T) hr (by decide) rfl (pa_cons (pv 1) (pa_cons (pe_dget hu (pe_fldK (K := K) rfl (pv 0) rfl) (pv 4) (fun _ _ => rfl)) pa_nil)))))))
      (pss_one (ps_ret (pv 1)))), ?_⟩
    obtain ⟨dx, st, t0, cd, io, hx, hst, ht0, hcd⟩ := id hL
    refine ⟨_, rfl, _, rfl, for_it (walk_enumS (z := SX.S R)) (fun i σ H' => ∃ (u : Addr) (z3 z4 : Option V), σ = [some (.ref x), some (.ref u), some (.str (SX.S R)), z3, z4] ∧ Same H H' ∧ H' u = some (ntup (Mu.after tb M (R.take i)))) ⟨t, none, none, rfl, Same.refl _, ht⟩ (fun _ _ _ _ _ => trivial) ?_ ?_⟩
    · rintro i v σ H1 H2 hi ⟨u, z3, z4, rfl, e, hu1⟩ ⟨tt, c, rfl, htt, rfl, hc⟩
      have hci := S_get hc
      have hcS := hR c (List.mem_of_getElem? hci)
      have e2 : Same H (L2.upd H1 tt (.tup [V.int ((i : Nat) : Int), V.str ⟨#[c]⟩])) := Same.upd e htt
      obtain ⟨m, hm1, hm2⟩ := lookup_some hcS
      have u2 : (L2.upd H1 tt (.tup [V.int ((i : Nat) : Int), V.str ⟨#[c]⟩])) u = some (ntup (Mu.after tb M (R.take i))) := by
        rw [upd_ne (ne_of_none hu1 htt)]
        exact hu1
      have rl : Mu.Rel n (Mu.after tb M (R.take i)) := Mu.after_rel hM fun l hl => sok.rel l (hR l (List.mem_of_mem_take hl))
      have hs2 := hst.same e2
      have g := DGet.k (k := lK c) hs2.1
      rw [valV_kvF, hm1] at g
      refine ⟨_, _, rfl, SqT.of upd_same, rfl, _, _, rfl, _, _, rfl, rfl, ?_⟩
      refine ⟨_, rfl, _, rfl, x, _, dx, _, _, rfl, e2 _ _ hx, T.c_Lot, T.n_Lot_steps, rfl, st, _, rfl, DGet.k (k := lK c) hs2.1, _, rfl, ?_⟩
      rw [valV_kvF, hm1]
      refine iteF ⟨_, rfl, _, rfl, x, _, dx, _, _, rfl, e2 _ _ hx, T.c_Lot, T.n_Lot_steps, rfl, _, rfl, st, .ref m, rfl, g, ?_⟩
      refine ⟨u, m, _, _, rfl, u2, hs2.2 _ hm2, Sm.rel sok.n3 rl, Sm.rel sok.n3 (sok.rel c hcS), fun H5 t5 e5 hn5 ht5 => ⟨t5, some (V.int ((i : Nat) : Int)), some (lV c), rfl, e2.trans e5, ?_⟩⟩
      rw [take_get hci, Mu.after_snoc]
      exact ht5
    · rintro σ H1 ⟨u, z3, z4, rfl, e, hu1⟩
      rw [S_size, List.take_length] at hu1
      exact ⟨_, rfl, k _ u e hu1⟩
theorem m_Lot_masks_after (T : Tx K mg) : Met P w K mg base 3 (ga K "Lot") "masks_after" (spLotMasksAfter K) [] := by
  obtain ⟨fd, F, b⟩ := f_Lot_masks_after (P := P) (w := w) (base := base) T
  exact ⟨_, fd, _, [], T.c_Lot, T.h_Lot_masks_after, F.mono (by decide), b, .nil⟩
theorem scLotLeast : FnScope ["self", "row"] ["self", "row"] (defScope sLot_Least) := fnScope_by (by decide +kernel)
theorem f_Lot_least (T : Tx K mg) : ∃ fd, FnOk P w K mg base C8.CX0 4 (ma K (ga K "Lot") "least") fd ["self", "row"] (spLotLeast K) ∧ Binds K fd ["self", "row"] [] := by
  refine fnM T.m_Lot_least scLotLeast (fun _ _ _ _ _ _ us hl => match us, hl with | [_, _], _ => rfl) (fun vs H Q E h => ?_) (fun cdv A outer s H vs Q E hr h => ?_)
  · obtain ⟨_, _, _, _, _, _, _, rfl, _⟩ := h
    rfl
  · obtain ⟨x, n, tb, S, C, R, nm, rfl, hL, sok, hR, hC, k⟩ := h
    have hu := hu_of hr
    refine ⟨_, (pss_one (ps_ret (pe_dget hu (pe_fldK (K := K) rfl (pv 0) rfl) (pe_mt (m_Lot_masks_after T) hr (by decide) (pv 0) (pa_cons (pe_fldK (K := K) rfl (pv 0) rfl) (pa_cons (pv 1) pa_nil))) (fun _ _ => rfl)))), ?_⟩
    obtain ⟨dx, st, t0, cd, io, hx, hst, ht0, hcd⟩ := id hL
    refine ⟨_, rfl, x, _, dx, _, _, rfl, hx, T.c_Lot, T.n_Lot_called, rfl, _, rfl, x, dx, _, rfl, hx, rfl, _, rfl, x, _, dx, _, _, rfl, hx, T.c_Lot, T.n_Lot_start, rfl, _, rfl, ?_⟩
    refine ⟨x, t0, n, tb, S, C, Mu.idm n, R, rfl, hL, sok, ht0, Mu.idm_rel n, hR, fun H' u e hu1 => ⟨cd, _, rfl, ?_, k H' e⟩⟩
    have g := DGet.t (k := (Mu.after tb (Mu.idm n) R).map kI) (e _ _ hcd) (by rw [kI_tup]; exact hu1)
    rw [calF_get, hC] at g
    exact g
end
end Mz
/-! an own exception above ValueError whose __init__ says super().__init__(x): ValueError.__init__ bound to an instance -/
namespace PySem
namespace VEX
open PySem.W
abbrev vei : Value := .builtin "ValueError.__init__"
abbrev vbw (x : Addr) : Obj := { cls := .type "method-wrapper", dict := none, data := .fields #[vei, .ref x], slots := #[] }
theorem vei_ty : typeOf vei = pure (.type "wrapper_descriptor") := by show builtinType _ = _; rw [builtinType_eq_fast]; kernel_rfl
theorem vei_nac : (kfb_private% "nameAndClass") vei = (pure (("__init__" : Str), Value.type "ValueError") : Sem (Str × Value)) := by kernel_rfl
section
variable {prog : Program} {w : World} {M : Model} {A : Around} {E : Value → Shared → Prop} {h : Heap} {g : Array GenState} {d : Drawn} {t : Nat} {os : OsState}
theorem vei_wd {x C : Addr} {P : Fin → Shared → Prop} (hin : Looks M h (isInstance (.ref x) (.type "ValueError")) true) (hq : P (.done (.ret (.ref h.objs.size))) ⟨h.push (vbw x), g, d, t, os⟩) :
    wpAny M A (Builtin.«wrapper_descriptor.__get__» ⟨[vei, .ref x, .ref C], []⟩) P E ⟨h, g, d, t, os⟩ := by
  unfold Builtin.«wrapper_descriptor.__get__»; refine wpAny_bind (wpAny_of_eq (a := (vei, some (.ref x), some (.ref C))) (by first | rfl | kernel_rfl) ?_)
  show wpAny M A ((kfb_private% "checkInstance") vei (.ref x) >>= fun _ => newFields "method-wrapper" [vei, .ref x] >>= fun r => ret r) P E _
  refine wpAny_bind ?_; show wpAny M A ((kfb_private% "nameAndClass") vei >>= _) _ E _
  refine wpAny_bind (wpAny_of_eq vei_nac ?_); show wpAny M A (isInstance (.ref x) (.type "ValueError") >>= _) _ E _
  refine wpAny_bind (hin.at ?_); refine KFB.if_not rfl (wpAny_pure ?_)
  exact wpAny_bind (wpAny_newObj_type (wpAny_pure hq))
theorem vei_ga {so D x C : Addr} {l₀ l : List Value} {K : Frag} {name : Str} {tk : Tok} {Q : Fin → Shared → Prop}
    (hso : h.get? so = some { cls := .type "super", dict := none, data := .fields #[.ref D, .ref x, .ref C], slots := #[] })
    (hno : Looks (model prog w) h (opaqueClassAbove (.ref C)) none) (hC : Looks (model prog w) h (mroOf (.ref C)) l₀)
    (hl : (l₀.dropWhile (· != .ref D)).drop 1 = l) (X : K.In h) (hf : alongIn K name l = some (some vei)) (hxC : x ≠ C) (hn : (name == ("__class__" : Str)) = false)
    (hin : Looks (model prog w) h (isInstance (.ref x) (.type "ValueError")) true) (hq : Q (.done (.ret (.ref h.objs.size))) ⟨h.push (vbw x), g, d, t, os⟩) :
    wpAny (model prog w) A (Builtin.«super.__getattribute__» ⟨[.ref so, .str name tk], []⟩) Q E ⟨h, g, d, t, os⟩ := by
  have hlk := ESX.slot_wd.lookup
  have hne : (Value.ref x == Value.ref C) = false := by simp [hxC]
  have hTi : Shared.TypeIs ⟨h, g, d, t, os⟩ vei "wrapper_descriptor" := vei_ty
  have hdt : ({ cls := .type "super", dict := none, data := .fields #[.ref D, .ref x, .ref C], slots := #[] } : Obj).data = .fields #[.ref D, .ref x, .ref C] := rfl
  have fi : (#[.ref D, .ref x, .ref C] : Array Value)[0]? = some (.ref D) ∧ (#[.ref D, .ref x, .ref C] : Array Value)[1]? = some (.ref x) ∧ (#[.ref D, .ref x, .ref C] : Array Value)[2]? = some (.ref C) := ⟨rfl, rfl, rfl⟩
  unfold Builtin.«super.__getattribute__»; obtain ⟨f0, f1, f2⟩ := fi
  repeat (first
    | (with_reducible refine wpAny_field hso hdt f0 ?_) | (with_reducible refine wpAny_field hso hdt f1 ?_) | (with_reducible refine wpAny_field hso hdt f2 ?_) | (with_reducible refine ks_wpAny_notOpaque hno ?_)
    | (with_reducible refine Looks.at hC ?_; rw [hl]) | (refine ks_forIn_along X (fun _ _ => rfl) rfl ?_ hf)
    | (with_reducible refine wpAny_call_entry ESX.slot_wd hTi ESX.entry_wd ?_ (ESX.args_wd _ _ _)) | (with_reducible refine vei_wd hin ?_) | (with_reducible refine ⟨_, rfl, ?_⟩)
    | (simp only [hn, hne, Bool.or_false, Bool.false_eq_true, if_false]) | wp_step | dsimp only)
  all_goals exact hq
theorem vei_method {so D x C : Addr} {l₀ l : List Value} {K : Frag} {name : Str} {pl : Sem Bool} {Q : Value × List Value → Shared → Prop}
    (hso : h.get? so = some { cls := .type "super", dict := none, data := .fields #[.ref D, .ref x, .ref C], slots := #[] })
    (hno : Looks (model prog w) h (opaqueClassAbove (.ref C)) none) (hC : Looks (model prog w) h (mroOf (.ref C)) l₀)
    (hl : (l₀.dropWhile (· != .ref D)).drop 1 = l) (X : K.In h) (hf : alongIn K name l = some (some vei)) (hxC : x ≠ C) (hn : (name == ("__class__" : Str)) = false)
    (hin : Looks (model prog w) h (isInstance (.ref x) (.type "ValueError")) true) (hq : Q (.ref h.objs.size, []) ⟨h.push (vbw x), g, d, t + 1, os⟩) :
    wpAny (model prog w) A (getMethod (.ref so) name pl) Q E ⟨h, g, d, t, os⟩ := by
  have hlk := F.ks_slot_super_ga.lookup
  have hcan := F.ks_canon_super_ga
  have hT : ∀ t', (⟨h, g, d, t', os⟩ : Shared).TypeIs (.ref so) "super" := fun _ => ⟨_, hso, rfl⟩
  unfold getMethod; refine wpAny_bind (wpAny_specialOf (hT _) hlk ?_)
  show wpAny _ _ (if (Manifest.canonical "super.__getattribute__" != "object.__getattribute__") = true then _ else _) _ _ _; rw [if_pos hcan]
  unfold getAttr getAttrBy; refine wpAny_bind (wpAny_bind (wpAny_mkText (wpAny_holding (wpAny_bind (wpAny_typeOf (hT _) (wpAny_bind (wpAny_of_eq hlk ?_)))))))
  show wpAny _ _ (getAttrByItsOwn (.ref so) (.str name t) (.type "super") (.builtin "super.__getattribute__") true false) _ _ _; unfold getAttrByItsOwn hookBefore callGetattribute boundAndCalled
  refine wpAny_bind (wpAny_of_eq (show (if onTheHeap (.type "super") then typeLookup (.type "super") "__getattr__" else pure none) = pure none from rfl) (wpAny_bind (wpAny_attempt (wpAny_holding ?_))))
  show wpAny _ _ (bindSpecial (.builtin "super.__getattribute__") (.ref so) >>= _) _ _ _; refine wpAny_bind (wpAny_of_eq (F.ks_slot_super_ga.bind _) ?_)
  refine wpAny_mono (Q := fun v s' => v = .ref h.objs.size ∧ s' = ⟨h.push (vbw x), g, d, t + 1, os⟩) (E := fun _ _ => False)
    (wpAny_call_entry F.ks_slot_super_ga (hT _) F.ks_entry_super_ga (vei_ga hso hno hC hl X hf hxC hn hin ⟨_, rfl, rfl, rfl⟩) (F.ks_gaArgs_super _ _)) (fun v s' hv => ?_) fun _ _ z => z.elim
  obtain ⟨rfl, rfl⟩ := hv; exact wpAny_pure (wpAny_pure hq)
end
section
open PySem.Calls PyProof.Rows
variable {prog : Program} {w : World} {M : Model} {A : Around} {E : Value → Shared → Prop} {s : Shared}
theorem vei_callW {pos : Pos} {u x : Addr} {args : List (Bool × Sem Value)} {Q : Value → Shared → Prop} (hp : args.any (·.1) = false)
    (h : wpAny M A (evalArgs (.ref u) true args []) (fun a s₁ => s₁.heap.get? u = some (vbw x) ∧ wpAny M A (call (.ref u) ([] ++ a.pos) a.kw) Q E s₁) E s) : wpAny M A (callWith pos (.ref u) [] args []) Q E s := by
  unfold callWith; refine wpAny_bind (wpAny_holding (wpAny_mono h (fun a s₁ h₁ => wpAny_bind (wpAny_standAt ?_)) fun _ _ x => x))
  obtain ⟨ho, hcall⟩ := h₁
  simp only [hp, List.any_nil, Bool.or_false]; refine wpAny_bind (m := keeperOf (.ref u)) ?_
  unfold keeperOf; refine wpAny_bind (wpAny_load ho ?_)
  simp only [vbw, show (Value.type "method-wrapper" != Value.type "method") = true by decide, show (Value.type "method-wrapper" == Value.type "builtin_function_or_method" || Value.type "method-wrapper" == Value.type "method-wrapper") = true by decide, if_true]
  refine wpAny_pure ?_; exact wpAny_bind (wpAny_mono hcall (fun r s₂ hr => wpAny_bind (wpAny_holding (wpAny_point (wpAny_pure hr)))) fun _ _ x => x)
theorem vei_callWith {pos : Pos} {u x : Addr} {env : Env} {e : Expr} {rest : List Expr} {Q : Value → Shared → Prop}
    (h : wpAny M A (spliced (backTo pos (starEach (e :: rest) env))) (fun vs s₁ => s₁.heap.get? u = some (vbw x) ∧ wpAny M A (call (.ref u) vs) Q E s₁) E s)
    (he : starEach (e :: rest) env = (false, eval e env) :: starEach rest env) (hplain : (backTo pos (starEach rest env)).any (·.1) = false) :
    wpAny M A (callWith pos (.ref u) [] (backTo pos (starEach (e :: rest) env)) []) Q E s := by
  rw [he] at h ⊢
  refine vei_callW (x := x) (by show (false || (backTo pos (starEach rest env)).any (·.1)) = false; rw [hplain]; rfl) ?_; exact evalArgs_plain h
end
section
variable {prog : Program} {w : World} {A : Around} {E : Value → Shared → Prop} {h : Heap} {g : Array GenState} {d : Drawn} {t : Nat} {os : OsState}
variable {nm q : Str} {C N : Addr} {bs bm : List Value} {hdct : Bool} {sn : List Str} {sub : List Value} {ab : Bool} {col : Option Bool} {dd : Option Addr} {k0 k1 k2 k3 k5 : Option Value}
theorem vei_call {u e t0 : Addr} {rest : List Value} {Q : Value → Shared → Prop} (hC : h.get? C = some (excClassObj nm q C N bs bm hdct sn sub ab col dd k0 k1 k2 k3 k5 "ValueError.__new__"))
    (he : h.get? e = some (HandSPX.excO C t0)) (hu : h.get? u = some (vbw e)) (hrest : rest.length ≤ sizeLine)
    (hq : ∀ h' t1, (∀ b o, b ≠ e → h.get? b = some o → h'.get? b = some o) → h'.get? e = some (HandSPX.excO C t1) → Q .none ⟨h', g, d, t, os⟩) : wpAny (model prog w) A (call (.ref u) rest) Q E ⟨h, g, d, t, os⟩ := by
  refine wpAny_call (codeAny_of_tree ?_); show wpAny _ A.in1 (callAny (.ref u) ⟨rest, []⟩) _ _ _
  simp only [callAny]; refine wpAny_bind (wpAny_load hu ?_)
  simp only [vbw, show (Value.type "method-wrapper" == Value.type "method" || Value.type "method-wrapper" == Value.type "builtin_function_or_method" || Value.type "method-wrapper" == Value.type "method-wrapper") = true by decide, if_true]
  refine KFB.if_so (by decide) (wpAny_bind (ESX.check_bound F.excBase_ValueError hC he rfl ?_))
  refine wpAny_bind (wpAny_pure (wpAny_pure ?_)); refine ⟨Code.quiet_builtin _ (by decide +kernel), codeAny_builtin F.excBase_ValueError.initEntry ?_⟩
  rw [Around.under_plainId F.excBase_ValueError.init.plain _]
  wp_walk
  refine hq _ h.objs.size (fun b o hb ho => ?_) ?_
  · rw [Heap.get?_update_other _ _ (Ne.symm hb)]; exact Heap.get?_push_of_some _ ho
  · rw [Heap.get?_update_self _ (Heap.get?_push_of_some _ he) rfl]; rfl
end
end VEX
end PySem
namespace Mz
open PySem PySem.Spec PyProof.Rows L2 ClX
/-- what super().__init__ of D finds in an exception of C -/
structure SupExc (K : PySem.W.Frag) (C D : Addr) : Prop where
  oex : OexC K C
  sub : PySem.W.mroIn K C (.ref D) = some true
  at_ : PySem.W.ks_superIn K C D "__init__" = some (some PySem.VEX.vei)
  ve : PySem.W.mroIn K C (.type "ValueError") = some true
  op : PySem.W.nsIn K PySem.cStatics "thirdparty.any" = some none
def tSupE (i : Nat) (C : Addr) (t : TA) : TE := fun σ H Q => ∃ x, σ[i]? = some (some (.ref x)) ∧ H x = some (exo x C none) ∧ t σ H fun vs H1 => vs.length ≤ 1000 ∧ H1 x = some (exo x C none) ∧ Q .non H1
section
variable {X : Cx} {body : List Stmt} {C D f cda cc : Addr} {fd : FuncData} {file : Str} {e : Expr} {es : List Expr} {t : TA} {pos apos p0 p1 : Pos} {i : Nat} {ar : Arg}
/-- super().__init__(e, ..) in an exception -/
theorem pat_supexc {x qual : Str} {pl : Sem Bool} {st : Stmt} (SF : SupFn X.K x qual st f D fd file cda cc) (PF : PFile X.prog file) (O : SupExc X.K C D) (hfu : X.env.func = some f) (hco : X.env.code = .ref cda)
    (hcc : X.env.cells.lookup ("__class__" : Str) = some cc) (hks : X.env.kindOf "super" = some .globalImplicit) (hkc : X.env.kindOf "__class__" = some .free) (hp : ((defArgs st).posonlyargs ++ (defArgs st).args).head? = some ar) (hka : X.env.kindOf ar.arg = some .local)
    (hN : X.N[i]? = some ar.arg) (hm : X.mg "super" = none) (ha : PA X (e :: es) t)
    (hst : starEach (e :: es) X.env = (false, eval e X.env) :: starEach es X.env := by rfl) (hpl : (backTo pos (starEach es X.env)).any (·.1) = false := by rfl)
    (ht : eval (.Call (.Attribute (.Call (.Name "super" p0) [] [] p1) "__init__" apos) (e :: es) [] pos) X.env = (do
      let ov ← attributeBase (.Call (.Name "super" p0) [] [] p1) "__init__" X.env (eval (.Call (.Name "super" p0) [] [] p1) X.env)
      standAt apos.atName
      let (f, first) ← holding [ov] (getMethod ov "__init__" pl)
      callWith pos f first (backTo pos (starEach (e :: es) X.env)) []) := by rfl) :
    PAt X body (.Call (.Attribute (.Call (.Name "super" p0) [] [] p1) "__init__" apos) (e :: es) [] pos) (tSupE i C t) := by
  refine ⟨fun pins s σ H Q I h => ?_⟩
  obtain ⟨x1, hx, hi, q⟩ := h
  obtain ⟨oc, od, dV, kV, doc, pm, an, ct, osl, rfl, lkf, _⟩ := SF.ex
  obtain ⟨ccl, cdd, fv, ccs, tf, lkc, hfv⟩ := SF.code
  obtain ⟨occ, odc, oslc, lkcell⟩ := SF.cell
  have X0 := I.kIn
  obtain ⟨tup1, hox⟩ := exo_at I.hok hi
  obtain ⟨cdD, hD⟩ := Option.isSome_iff_exists.mp (show (PySem.W.clsIn X.K D).isSome = true from SF.cls)
  obtain ⟨oD, hD1, hD2⟩ : ∃ oD, s.heap.get? D = some oD ∧ oD.data = .cls cdD := by
    unfold PySem.W.clsIn at hD
    split at hD
    · rename_i c d cd' sl ho
      cases hD
      exact ⟨_, X0 _ _ ho, rfl⟩
    · cases hD
  obtain ⟨mb, b1, b2⟩ := I.mod.blt
  obtain ⟨ml, hns, hloc⟩ := I.loc
  obtain ⟨u, ru, lu⟩ := hloc i ar.arg (.ref x1) hN hx (.inl hka)
  obtain rfl : u = Value.ref x1 := ru
  have lu : ml ar.arg = some (.ref x1) := by
    rcases lu with ⟨_, z⟩ | ⟨z | z, _⟩
    · exact z
    · rw [hka] at z; cases z
    · rw [hka] at z; cases z
  refine PySem.ks_wpAt_MethodCall (pl := pl) ?_ ht
  refine PySem.ks_wpAt_super_base (env := X.env) (ar := ar) hks hkc rfl hfu (X0 _ _ lkf) rfl hp hco (X0 _ _ lkc) rfl hfv PF.file PF.top ?_
  refine PySem.W.ks_loadName_global I.ok.kind hks (PySem.Calls.loadGlobal_builtin (by rw [I.ok.glob]; exact I.mod.glob.keeps I.bk) hm (by rw [I.ok.blt]; exact b1.keeps I.bk) ((b2 _ (by decide +kernel)).trans (by decide +kernel)) ⟨rfl, ?_⟩)
  refine wpAny_loadName_free I.ok.kind hkc hcc ⟨_, X0 _ _ lkcell, rfl⟩ ?_
  refine wpAny_loadName_local I.ok.kind hka hns lu ?_
  refine PySem.ks_wpAny_isType_cls hD1 hD2 ⟨rfl, ?_⟩
  refine PySem.ks_wpAny_call_super hD1 hD2 hox rfl (fun c z => by cases z) (PySem.W.looks_mroIn X0 O.sub) (fun h' e1 k1 => ?_)
  have I1 : Inv X pins σ H { s with heap := h' } := I.kept (t' := s.toks) k1
  have X1 := I1.kIn
  obtain ⟨cd, hcd⟩ : ∃ cd, PySem.W.clsIn X.K C = some cd := by
    have z := O.at_
    unfold PySem.W.ks_superIn at z
    cases hc : PySem.W.clsIn X.K C with
    | none => rw [hc] at z; cases z
    | some cd => exact ⟨cd, rfl⟩
  have hal : PySem.W.alongIn X.K "__init__" ((cd.mro.dropWhile (· != .ref D)).drop 1) = some (some PySem.VEX.vei) := by
    have z := O.at_
    unfold PySem.W.ks_superIn at z
    rw [hcd] at z
    exact z
  have J : PySem.W.InstAt h' x1 ({ cls := .ref C, dict := none, data := .fields #[.ref tup1, .none, .none, .none, .bool false, .none] } : Obj) C none := ⟨k1 _ _ hox, rfl, rfl, trivial⟩
  refine PySem.VEX.vei_method e1 (PySem.W.looks_opaque X1 O.op) (l₀ := cd.mro) ?_ rfl X1 hal (PySem.W.ks_ne X1 J hcd) rfl (J.type.andThen (PySem.W.looks_mroIn X1 O.ve)) ?_
  · exact fun A Q E s k q => wpAny_bind ((PySem.W.looks_clsIn X1 hcd) A _ E s k (wpAny_pure q))
  · have I2 : Inv X ((h'.objs.size, PySem.VEX.vbw x1) :: pins) σ H { s with heap := h'.push (PySem.VEX.vbw x1), toks := s.toks + 1 } := pin_new (s := { s with heap := h' }) (t' := s.toks + 1) I1 (fun _ _ z => Heap.get?_push_of_some _ z) (Nat.le_refl _) (Heap.get?_push_size h' rfl) (fun v z => nomatch z)
    refine PySem.VEX.vei_callWith (thn (ha.run pos _ _ σ H _ I2 q) fun us s3 ⟨vs, H2, I3, rv, hl, hx3, q2⟩ => ⟨pin_at I3, ?_⟩) hst hpl
    obtain ⟨nm, q0, N, bs, bm, sn, sub, ab, col, dd, k0, k1', k2, k3, k5, hC, hbm⟩ := O.oex.cls
    obtain ⟨t3, ho3⟩ := exo_at I3.hok hx3
    have hu3 := pin_at I3
    have hlen : us.length ≤ sizeLine := by
      rw [← Paired.length rv, sizeLine_eq]
      omega
    obtain ⟨hp3, g3, d3, tk3, os3⟩ := s3
    refine PySem.VEX.vei_call (I3.kIn _ _ hC) ho3 hu3 hlen fun h4 t4 k4 hx4 => ?_
    have J4 := I3.write (t' := tk3) (x := x1) (e := x1) (o := exo x1 C none) (by rw [hx3]; exact True.intro) (.inl rfl) k4 ⟨_, hx4⟩ (exo_ok hx4)
    have eu : upd H2 x1 (exo x1 C none) = H2 := funext fun b => by
      by_cases hb : b = x1
      · rw [hb, upd_same, hx3]
      · rw [upd_ne hb]
    rw [eu] at J4
    exact ⟨.non, H2, unpin J4, rfl, q2⟩
end
end Mz
namespace Mz
open PySem PySem.Spec PyProof.Rows L2 He C8
/-- facts of the one exception that is raised -/
structure Te (K : PySem.W.Frag) (mg : Str → Option Value) : Prop where
  z : Tz K mg
  tmi : SupX K "__init__" "TooMany.__init__" sTooMany_Init (ma K (ga K "TooMany") "__init__") (ga K "TooMany")
  tme : SupExc K (ga K "TooMany") (ga K "TooMany")
  tml : PySem.W.findIn K (.ref (ga K "TooMany")) "limit" = some none
  tmI : PySem.W.findIn K (.ref (ga K "TooMany")) "__init__" = some (some (.ref (ma K (ga K "TooMany") "__init__")))
  tmT : PySem.W.typeIn K (.ref (ma K (ga K "TooMany") "__init__")) = some (.type "function")
def spTooManyInit (K : PySem.W.Frag) : Sp := fun vs H Q _ => ∃ (a : Addr) (m : Int), vs = [.ref a, .int m] ∧ H a = some (exo a (ga K "TooMany") none) ∧ ∀ dx, H dx = none → dx ≠ a → Q .non (L2.upd (L2.upd H dx (exd dx [("limit", .int m)])) a (exo a (ga K "TooMany") (some dx)))
section
variable {P : Program} {w : World} {K : PySem.W.Frag} {mg : Str → Option Value} {base : Heap}
theorem scTooManyInit : SupScope ["self", "limit"] ["self", "limit"] (defScope sTooMany_Init) := supScope_by (by decide +kernel)
theorem f_TooMany_init (Z : Te K mg) (PF : PFile P fileM) :
    ∃ fd, FnOk P w K mg base C8.CX0 1 (ma K (ga K "TooMany") "__init__") fd ["self", "limit"] (spTooManyInit K) ∧ Binds K fd ["self", "limit"] [] := by
  have Y := Z.z.y
  have T := Y.t
  obtain ⟨fd, cda, cc, SF⟩ := Z.tmi
  refine ⟨fd, fn_super SF scTooManyInit (fun vs H Q E h => ?_) (fun A outer s H vs Q E hr h => ?_), SF.binds fun _ _ _ _ _ _ us hl => match us, hl with | [_, _], _ => rfl⟩
  · obtain ⟨_, _, rfl, _⟩ := h
    rfl
  · obtain ⟨a, m, rfl, ha, k⟩ := h
    have hcc : ∀ {L : Addr}, (ownS (defScope sTooMany_Init) L ++ [(("__class__" : Str), cc)]).lookup ("__class__" : Str) = some cc := fun {L} => rfl
    refine ⟨_, (sat_expr (pat_supexc (i := 0) SF PF Z.tme rfl rfl hcc rfl rfl rfl rfl rfl Y.z (pa_cons pe_str pa_nil)) (pss_one (ps_ost (pv 0) (pv 1)))), ?_⟩
    refine ⟨a, rfl, ha, by show 1 ≤ 1000; decide, ha, ?_⟩
    exact ⟨_, rfl, _, rfl, a, _, rfl, Z.tme.oex, Z.tml, .inl ⟨ha, k⟩⟩
end
end Mz
namespace Mz
open PySem PySem.Spec PyProof.Rows L2
section
variable {X : Cx} {e : Expr} {es : List Expr} {ta : TA} {p pos : Pos}
/-- C(e, ..) by C's own __init__: the context of the new exception is None -/
theorem pmkN {CX : CXT} {x : Str} {C fI : Addr} {k : Nat} {fd : FuncData} {ps : List Str} {sp : Sp} (T : OexC X.K C) (iC : PySem.W.findIn X.K (.ref C) "__init__" = some (some (.ref fI)))
    (tI : PySem.W.typeIn X.K (.ref fI) = some (.type "function")) (F1 : FnOk X.prog X.w X.K X.mg X.base CX k fI fd ps sp) (hr : Room (k + 1) X.A) (hb : L2.Binds X.K fd ps [])
    (hx : Passes CX X (fun _ _ _ => False)) (hg : Gl X x) (hm : X.mg x = some (.ref C)) (ha : PA X (e :: es) ta) (hdb : (x == ("__debug__" : Str)) = false := by decide)
    (he : starEach (e :: es) X.env = (false, eval e X.env) :: starEach es X.env := by rfl) (hpl : (backTo pos (starEach es X.env)).any (·.1) = false := by rfl) :
    L2N.PMk X (.Call (.Name x p) (e :: es) [] pos) (tMkO C sp [] ta) := by
  intro pins s σ H Q I h; obtain ⟨nm, q, N, bs, bm, sn, sub, ab, col, dd, k0, k1, k2, k3, k5, hC, hbm⟩ := T.cls
  refine wpAny_Call_Name_kw (ld_glob I hg hm ?_ hdb); refine PySem.W.callWith_K (h₀ := X.base) I.ok.mod.kin T.kC (thn (ha.run pos pins s σ H _ I h) fun us s1 ⟨vs, H1, I1, r1, hz, q1⟩ => ⟨I1.kIn, ?_⟩) he hpl
  show wpAny _ _ (call (.ref C) us) _ _ _; obtain ⟨hp, g, dr, tk, os⟩ := s1
  have hsz : hp.objs.size ≤ hp.objs.size + 1 := Nat.le_succ _
  have hn : H1 (hp.objs.size + 1) = none := I1.hok.fresh hsz
  have hq := q1 (hp.objs.size + 1) hn; rw [List.append_nil] at hq
  obtain ⟨hP, hPe⟩ : ∃ hP, hP = (hp.push (PySem.W.kdv_tup us)).push (PySem.HandSPX.excO C hp.objs.size) := ⟨_, rfl⟩
  have kk : ∀ b o, hp.get? b = some o → hP.get? b = some o := fun b o e => by rw [hPe]; exact Heap.get?_push_of_some _ (Heap.get?_push_of_some _ e)
  have hget : hP.get? (hp.objs.size + 1) = some (PySem.HandSPX.excO C hp.objs.size) := by rw [hPe]; heap_get
  have I2 : Inv X pins σ (upd H1 (hp.objs.size + 1) (exo (hp.objs.size + 1) C none)) ⟨hP, g, dr, tk, os⟩ := I1.laid (t' := tk) (a := hp.objs.size + 1) (o := exo (hp.objs.size + 1) C none) (h' := hP) kk hsz (exo_ok hget)
  have r2 : Vals (V.ref (hp.objs.size + 1) :: vs) (Value.ref (hp.objs.size + 1) :: us) := .cons rfl r1
  have hl : (Value.ref (hp.objs.size + 1) :: us ++ []).length = ps.length := by rw [List.append_nil, ← r2.length]; exact F1.len _ _ _ _ hq
  have hus : us.length ≤ sizeLine := by rw [← Paired.length r1, sizeLine_eq]; omega
  have b2 := hb _ (Value.ref (hp.objs.size + 1) :: us) I2.kIn hl; rw [List.append_nil] at b2
  refine wpAny_call (PySem.HandSPX.call_own F.excBase_ValueError (fun Y => PySem.HandSPX.refsVE_contains Y bm hbm) (I1.kIn _ _ hC) (PySem.W.looks_findIn I1.kIn iC) (fun self => PySem.W.bind_fn I1.kIn self tI) hus ?_)
  rw [← hPe]
  refine codeAny_mono (F1.run _ X.stack _ _ ⟨Value.ref (hp.objs.size + 1) :: us, []⟩ (Value.ref (hp.objs.size + 1) :: us) _ _ (fun _ _ _ => False) (hr.make C us []) (I2.env0.make C us []) b2 r2 hq) fun r s' hq' => ?_
  cases r with
  | error er => exact hx pins σ _ _ er s' I2 hq'
  | ok fl =>
    cases fl with
    | ret u =>
      obtain ⟨v, H2, os2, bare2, un2, hok2, rv, ev, d, fs, ea, ed, hd1, q2⟩ := hq'; subst ev
      obtain ⟨h2, g2, d2, t2, os'⟩ := s'
      obtain ⟨t0, G, J, kG, ge, hoe, na⟩ := mk_end0 (d2 := d2) (t2 := t2) I1 hsz kk un2 hok2 os2 bare2 ea ed hd1
      exact ⟨rv, hp.objs.size + 1, _, _, ⟨G, g2, d2, t2, os'⟩, _, .ref C, some d, rfl, J, kG, ge, hoe, ⟨rfl, rfl, fun vs e => by cases e; rfl⟩, rfl, rfl, na, rfl, bare2, raises_own T.exC T.tyC, q2⟩
    | next => exact False.elim hq'
    | brk => exact False.elim hq'
    | cont => exact False.elim hq'
end
end Mz
namespace Mz
open PySem PySem.Spec PyProof.Rows L2 He C8
/-- a lot while it grows -/
def GrowAt (K : PySem.W.Frag) (H : Hp) (x dx st t0 cd io : Addr) (C : List (List Nat × List Nat)) : Prop :=
  ∃ ms : List Addr, H x = some (.ins (ga K "Lot") dx [("steps", .ref st), ("start", .ref t0), ("called", .ref cd), ("in_order", .ref io)]) ∧ H cd = some (.dT (calF C)) ∧ H io = some (.lst (ms.map V.ref)) ∧ Pts H ms ((C.map (·.1)).map ntup)
theorem GrowAt.same {K : PySem.W.Frag} {H H' : Hp} {x dx st t0 cd io : Addr} {C : List (List Nat × List Nat)} (h : GrowAt K H x dx st t0 cd io C) (e : Same H H') : GrowAt K H' x dx st t0 cd io C := by
  obtain ⟨ms, h1, h2, h3, h4⟩ := h
  exact ⟨ms, e _ _ h1, e _ _ h2, e _ _ h3, h4.same e⟩
def spLotKeep (K : PySem.W.Frag) : Sp := fun vs H Q E => ∃ (x dx st t0 cd io t : Addr) (C : List (List Nat × List Nat)) (M nm : List Nat), vs = [.ref x, .ref t, .str (SX.S nm), .int 60] ∧ GrowAt K H x dx st t0 cd io C ∧ H t = some (ntup M) ∧ C.length ≤ 60 ∧
  (M ∈ C.map (·.1) → Q .non H) ∧ (M ∉ C.map (·.1) → C.length ≤ 59 → ∀ H', Same2 cd io H H' → GrowAt K H' x dx st t0 cd io (C ++ [(M, nm)]) → Q .non H') ∧
  (M ∉ C.map (·.1) → 60 ≤ C.length → ∀ H' d, Same H H' → H d = none → H' d = some (.xd [("limit", .int 60)]) → E (.ref (ga K "TooMany")) (some d) H')
section
variable {P : Program} {w : World} {K : PySem.W.Frag} {mg : Str → Option Value} {base : Heap}
/-- a method that may let an exception out -/
theorem fnMX {x qual : Str} {st : Stmt} {f : Addr} {N ps : List Str} {k : Nat} {sp : Sp} (F : FnM K x qual st [] f) (S : FnScope N ps (defScope st))
    (hb : ∀ (kV doc pm : Value) (an : Option Addr) (cdv ct : Value) (us : List Value), us.length = ps.length → bindArgs (PySem.W.fnOf x qual (defArgs st) (defBody st) (defScope st) .none kV doc pm an cdv ct) ⟨us, []⟩ = pure (ps.zip us))
    (len : ∀ vs H Q E, sp vs H Q E → vs.length = ps.length)
    (hbody : ∀ (cdv : Value) (A : Around) (outer : List Env) (s : Shared) (H : Hp) (vs : List V) (Q : VK) (E : XK), Room k (A.deeper (envOfC qual (defScope st) s.heap.objs.size f cdv)) → sp vs H Q E →
      ∃ t, PSs (cxOf (L2N.CX P w) P w K mg base N qual (defScope st) f cdv A outer s H E) (defBody st) t ∧ t { nx := fun _ H' => Q .non H', rt := Q } (L2.start N vs) H) : ∃ fd, FnOk P w K mg base (L2N.CX P w) (k + 1) f fd ps sp ∧ Binds K fd ps [] := by
  obtain ⟨fd, F⟩ := F
  exact ⟨fd, F.ok S len fun cdv A outer s H vs Q E hr h => hbody cdv A outer s H vs Q E hr h, F.bindsN hb⟩
theorem scLotKeep : FnScope ["self", "masks", "name", "most"] ["self", "masks", "name", "most"] (defScope sLot_Keep) := fnScope_by (by decide +kernel)
theorem f_Lot_keep (Z : Te K mg) (PF : PFile P fileM) : ∃ fd, FnOk P w K mg base (L2N.CX P w) 4 (ma K (ga K "Lot") "keep") fd ["self", "masks", "name", "most"] (spLotKeep K) ∧ Binds K fd ["self", "masks", "name", "most"] [] := by
  have T := Z.z.y.t
  obtain ⟨fdI, FI, bI⟩ := f_TooMany_init (P := P) (w := w) (base := base) Z PF
  have FI := FI.mono (show 1 ≤ 2 by decide)
  refine fnMX T.m_Lot_keep scLotKeep (fun _ _ _ _ _ _ us hl => match us, hl with | [_, _, _, _], _ => rfl) (fun vs H Q E h => ?_) (fun cdv A outer s H vs Q E hr h => ?_)
  · obtain ⟨_, _, _, _, _, _, _, _, _, _, rfl, _⟩ := h
    rfl
  · obtain ⟨x, dx, st, t0, cd, io, t, C, M, nm, rfl, ⟨ms, hx, hcd, hio, hp⟩, ht, hC60, k1, k2, k3⟩ := h
    have hu := hu_of hr
    refine ⟨_, (pss_one (ps_if (pt_cmp (pc_dnotin hu (pv 1) (pe_fldK (K := K) rfl (pv 0) rfl)))
        (pss_cons (ps_if (pt_cmpR op_ge (pe_callB (call_lenK (K := K) rfl) (by rfl) T.z_len PySem.boot_len (pa_cons (pe_fldK (K := K) rfl (pv 0) rfl) pa_nil)) (pv 3) (nomark _))
          (pss_one (L2N.ps_raise rfl (L2N.takes_of rfl rfl rfl rfl) (pmkN Z.tme.oex Z.tmI Z.tmT FI hr bI C8.pass0 rfl T.g_TooMany (pa_cons (pv 3) pa_nil))))
          pss_nil)
        (pss_cons (ps_dput hu (pe_fldK (K := K) rfl (pv 0) rfl) (pv 1) (pv 2) rfl)
        (pss_one (ps_expr (pe_bm PySem.F.plainAttrs_list PySem.F.slot_list_append PySem.F.type_list_append mt_append (pe_fldK (K := K) rfl (pv 0) rfl) (pa_cons (pv 1) pa_nil))))))
        pss_nil)), ?_⟩
    have hml : ms.length = C.length := by rw [hp.1, List.length_map, List.length_map]
    have hbt : H t = some (.tup ((M.map kI).map kV)) := by rw [kI_tup]; exact ht
    refine ⟨_, rfl, _, rfl, x, _, dx, _, _, rfl, hx, T.c_Lot, T.n_Lot_called, rfl, cd, _, rfl, DGet.t hcd hbt, _, rfl, ?_⟩
    rw [calF_get, Option.isSome_map, lookL_isSome]
    by_cases hM : M ∈ C.map (·.1)
    · rw [decide_eq_true hM]
      exact iteF (k1 hM)
    · rw [decide_eq_false hM]
      refine iteT ⟨_, rfl, x, _, dx, _, _, rfl, hx, T.c_Lot, T.n_Lot_in_order, rfl, io, _, rfl, .inl (SqL.of hio), _, rfl, _, _, rfl, rfl, _, rfl, ?_⟩
      rw [List.length_map, hml]
      by_cases h60 : 60 ≤ C.length
      · rw [decide_eq_true (show (60 : Int) ≤ ((C.length : Nat) : Int) by omega)]
        refine iteT ⟨_, rfl, by show 1 ≤ 1000; decide, fun a ha => ⟨a, 60, rfl, upd_same, fun d hd hda => ⟨rfl, d, [("limit", .int 60)], upd_same, by rw [upd_ne hda, upd_same], ?_, ?_⟩⟩⟩
        · rw [upd_ne hda] at hd
          exact hd
        · have hdH : H d = none := by
            rw [upd_ne hda] at hd
            exact hd
          refine k3 hM h60 _ d (fun b o hb => ?_) hdH upd_same
          have b1 : b ≠ d := ne_of_none hb hdH
          have b2 : b ≠ a := ne_of_none hb ha
          rw [upd_ne b1, del_ne b2, upd_ne b2, upd_ne b1, upd_ne b2]
          exact hb
      · rw [decide_eq_false (show ¬ (60 : Int) ≤ ((C.length : Nat) : Int) by omega)]
        have hno : C.lookup M = none := lookL_none hM
        have cdio : cd ≠ io := ne_of hcd hio (fun z => by cases z)
        have xcd : x ≠ cd := ne_of hx hcd (fun z => by cases z)
        have xio : x ≠ io := ne_of hx hio (fun z => by cases z)
        refine iteF ⟨_, rfl, _, rfl, x, _, dx, _, _, rfl, hx, T.c_Lot, T.n_Lot_called, rfl, _, rfl, cd, _, rfl, DPut.t hcd hbt (small1000 (by unfold calF; rw [List.length_map]; omega)), ?_⟩
        have hput : L2.putK (calF C) (M.map kI) (V.str (SX.S nm)) = calF (C ++ [(M, nm)]) := by
          rw [putK_new _ (by rw [calF_get, hno]; rfl)]
          unfold calF
          rw [List.map_append]
          rfl
        rw [hput]
        refine ⟨_, rfl, x, _, dx, _, .ref io, rfl, by rw [upd_ne xcd]; exact hx, T.c_Lot, T.n_Lot_in_order, rfl, .inl ⟨rfl, _, SqL.of (by rw [upd_ne cdio.symm]; exact hio)⟩, _, rfl, io, _, _, rfl, rfl, by rw [upd_ne cdio.symm]; exact hio, small1000 (by rw [List.length_map, hml]; omega), ?_⟩
        refine k2 hM (by omega) _ (fun b o h1 h2 hb => by rw [upd_ne h2, upd_ne h1]; exact hb) ⟨ms ++ [t], by rw [upd_ne xio, upd_ne xcd]; exact hx, by rw [upd_ne cdio, upd_same], by rw [upd_same, List.map_append]; rfl, ?_⟩
        have htc : t ≠ cd := ne_of ht hcd (fun z => by unfold ntup at z; cases z)
        have hti : t ≠ io := ne_of ht hio (fun z => by unfold ntup at z; cases z)
        rw [List.map_append, List.map_append]
        have nt : ∀ {p : Addr} {o : HO}, H p = some o → (∀ A : List Nat, ntup A ≠ o) → p ∉ ms := fun {p o} h1 h2 => Pts.notin hp h1 fun u hu z => by
          obtain ⟨r, _, rfl⟩ := List.mem_map.mp hu
          exact h2 r z
        have n1 := nt hcd (fun A z => by unfold ntup at z; cases z)
        have n2 := nt hio (fun A z => by unfold ntup at z; cases z)
        exact ((hp.upd n1).upd n2).snoc (by rw [upd_ne hti, upd_ne htc]; exact ht)
end
end Mz
namespace Mz
open PySem PySem.Spec PyProof.Rows L2 He C8
theorem lotF_big (gs : List (List Nat)) (f at_ : Nat) (L : List (List Nat)) (h : 60 < L.length) : Mu.lotF gs f at_ L = L := by
  cases f with
  | zero => rfl
  | succ f =>
    show (match L[at_]? with | none => L | some a => if 60 < L.length then L else Mu.lotF gs f (at_ + 1) (Mu.stepM gs L a)) = L
    cases L[at_]? with
    | none => rfl
    | some a => exact if_pos h
theorem lotF_step {gs : List (List Nat)} {f at_ : Nat} {L : List (List Nat)} {a : List Nat} (h : L[at_]? = some a) (hl : L.length ≤ 60) : Mu.lotF gs (f + 1) at_ L = Mu.lotF gs f (at_ + 1) (Mu.stepM gs L a) := by
  show (match L[at_]? with | none => L | some a => if 60 < L.length then L else Mu.lotF gs f (at_ + 1) (Mu.stepM gs L a)) = _
  rw [h]
  exact if_neg (by omega)
theorem lotF_end {gs : List (List Nat)} {f at_ : Nat} {L : List (List Nat)} (h : L[at_]? = none) : Mu.lotF gs f at_ L = L := by
  cases f with
  | zero => rfl
  | succ f =>
    show (match L[at_]? with | none => L | some a => if 60 < L.length then L else Mu.lotF gs f (at_ + 1) (Mu.stepM gs L a)) = L
    rw [h]
theorem stepM_take {gs : List (List Nat)} {L : List (List Nat)} {a g : List Nat} {i : Nat} (h : gs[i]? = some g) : Mu.stepM (gs.take (i + 1)) L a = Mu.addM (Mu.stepM (gs.take i) L a) (Mu.prod a g) := by
  unfold Mu.stepM
  rw [take_get h, List.foldl_append]
  rfl
theorem stepM_mono (gs : List (List Nat)) (L : List (List Nat)) (a : List Nat) (i : Nat) : (Mu.stepM (gs.take i) L a).length ≤ (Mu.stepM gs L a).length := by
  have e : Mu.stepM gs L a = Mu.stepM (gs.drop i) (Mu.stepM (gs.take i) L a) a := by
    unfold Mu.stepM
    rw [← List.foldl_append, List.take_append_drop]
  rw [e]
  obtain ⟨r, hr⟩ := Mu.stepM_pre a (gs.drop i) (Mu.stepM (gs.take i) L a)
  rw [hr, List.length_append]
  omega
def spLotInit (K : PySem.W.Frag) : Sp := fun vs H Q E => ∃ (x dx c d n : Nat) (tb : Nat → List Nat) (F : List (Nat × Addr)), vs = [.ref x, .ref c, .int 60] ∧ H x = some (.ins (ga K "Lot") dx []) ∧ CastAt K H c d n tb F ∧
  ((Mu.due n ((lets F).map tb)).length ≤ 60 → ∀ H' S C, SameX x H H' → LotAt K H' x n tb S C → SOk n tb S → S.map (·.1) = lets F → C.map (·.1) = Mu.due n ((lets F).map tb) → Q .non H') ∧
  (60 < (Mu.due n ((lets F).map tb)).length → ∀ H' e, SameX x H H' → H e = none → H' e = some (.xd [("limit", .int 60)]) → E (.ref (ga K "TooMany")) (some e) H')
section
variable {P : Program} {w : World} {K : PySem.W.Frag} {mg : Str → Option Value} {base : Heap}
theorem scLotInit : FnScope ["self", "cast", "most", "letter", "at", "masks"] ["self", "cast", "most"] (defScope sLot_Init) := fnScope_by (by decide +kernel)
theorem f_Lot_init (Z0 : Te K mg) (PF : PFile P fileM) {fd : FuncData} (FD : FunD K "__init__" "Lot.__init__" (defArgs sLot_Init) (defBody sLot_Init) (defScope sLot_Init) [] [("most", V.int 400)] (ma K (ga K "Lot") "__init__") fd) : FnOk P w K mg base (L2N.CX P w) 6 (ma K (ga K "Lot") "__init__") fd ["self", "cast", "most"] (spLotInit K) := by
  have Z := Z0.z
  have T := Z.y.t
  obtain ⟨fdK, FK, bK⟩ := f_Lot_keep (P := P) (w := w) (base := base) Z0 PF
  refine FD.ok scLotInit (fun vs H Q E h => ?_) (fun cdv A outer s H vs Q E hr h => ?_)
  · obtain ⟨_, _, _, _, _, _, _, rfl, _⟩ := h
    rfl
  · obtain ⟨x, dx, c, d, n, tb, F, rfl, hx, hC, k1, k2⟩ := h
    have hu := hu_of hr
    refine ⟨_, (pss_cons (ps_fld (pv 0) (pe_dc (own := [("letter", 3)]) (g := gName 3) (tt := tYes) rfl scLotInit.nd (pi_list (pe_mt0 (m_Cast_letters T) hr (by decide) (pv 1))) (blkOk_by (own := [("letter", 3)]) (N := ["self", "cast", "most", "letter", "at", "masks"]) (sc := defScope sLot_Init) (by decide +kernel)) (fun _ _ _ _ _ => pg_name (i := 3) scLotInit.nd rfl (Or.inl rfl)) (fun _ _ _ _ _ => pts_nil) (fun _ _ _ _ _ => (pv 3)) (fun _ _ _ _ _ => (pe_fldK (K := K) rfl (pe_subO Z.sub (getR T) (hr.mono (by decide)) (pv 1) (pv 3)) rfl))) rfl)
      (pss_cons (ps_fld (pv 0) (pe_c (c_identity_masks T) hr (by decide) rfl (pa_cons (pe_fldK (K := K) rfl (pv 1) rfl) pa_nil)) rfl)
      (pss_cons (ps_fld (pv 0) pe_dnewT rfl)
      (pss_cons (ps_fld (pv 0) (pe_lst pa_nil) rfl)
      (pss_cons (ps_expr (pe_meth (E := E) (pv 0) T.c_Lot T.h_Lot_keep FK (hr.mono (by decide)) bK .nil (L2N.passes_call (L2N.takes_of rfl rfl rfl rfl) fun _ _ _ _ h => h) (pa_cons (pe_fldK (K := K) rfl (pv 0) rfl) (pa_cons pe_str (pa_cons (pv 2) pa_nil)))))
      (pss_cons (ps_set (i := 4) scLotInit.nd rfl (Or.inl rfl) pe_int)
      (pss_one (ps_while (passes_of rfl) (pt_cmpR op_lt (pv 4) (pe_callB (call_lenK (K := K) rfl) (by rfl) T.z_len PySem.boot_len (pa_cons (pe_fldK (K := K) rfl (pv 0) rfl) pa_nil)) (nomark _))
        (pss_cons (ps_set (i := 5) scLotInit.nd rfl (Or.inl rfl) (pe_ix (ix_listK (K := K) rfl) (pe_fldK (K := K) rfl (pv 0) rfl) (pv 4) (fun _ _ => rfl)))
        (pss_cons (ps_lock (ps_for (passes_of rfl) rfl (pi_keys (pe_fldK (K := K) rfl (pv 0) rfl)) (pg_name (i := 3) scLotInit.nd rfl (Or.inl rfl))
          (pss_one (ps_expr (pe_meth (E := E) (pv 0) T.c_Lot T.h_Lot_keep FK (hr.mono (by decide)) bK .nil (L2N.passes_call (L2N.takes_of rfl rfl rfl rfl) fun _ _ _ _ h => h) (pa_cons (pe_c (c_product T) hr (by decide) rfl (pa_cons (pv 5) (pa_cons (pe_dget hu (pe_fldK (K := K) rfl (pv 0) rfl) (pv 3) (fun _ _ => rfl)) pa_nil))) (pa_cons (pe_op op_add_str (pe_dget hu (pe_fldK (K := K) rfl (pv 0) rfl) (pv 5) (fun _ _ => rfl)) (pv 3)) (pa_cons (pv 2) pa_nil))))))))
        (pss_one (ps_aug (i := 4) scLotInit.nd rfl (Or.inl rfl) pe_int ip_add)))))))))))), ?_⟩
    obtain ⟨dxc, rc, hc, hd, hr1, htabs, fok⟩ := id hC
    refine ⟨_, rfl, c, dxc, _, rfl, hc, rfl, c, d, n, tb, F, rfl, hC, fun H1 l e1 hl1 hl2 => ⟨l, rfl, ⟨_, SqL.of hl2⟩, fun D hD => ?_⟩⟩
    have hF1 : ∀ c' ∈ lets F, ∃ t, F.lookup c' = some t ∧ (c', t) ∈ F := fun c' h => lookup_some (by unfold lets at h; exact of_decide_eq_true (List.mem_filter.mp h).2)
    have ndL : (lets F).Nodup := List.Nodup.sublist List.filter_sublist abc_nodup
    have lenL : (lets F).length ≤ 26 := by
      have := List.length_filter_le (fun c => decide (c ∈ F.map (·.1))) abc
      exact this
    refine it_gen (walk_list (xs := (lets F).map lV)) (fun i H' => ∃ S : List (Nat × Addr), Same H1 H' ∧ H' D = some (.dK (kvF V.ref S)) ∧ S.map (·.1) = (lets F).take i ∧ ∀ q ∈ S, H q.2 = some (ntup (tb q.1))) ⟨[], Same.upd (Same.refl _) hD, upd_same, by simp, by simp⟩ (fun i H' ⟨S, e, _⟩ => SqL.of (e _ _ hl2)) ?_ ?_
    · rintro i v H3 H4 hi ⟨S, e3, hD3, hS, hSt⟩ ⟨rfl, hv⟩
      rw [List.length_map] at hi
      rw [List.getElem?_map, List.getElem?_eq_getElem hi] at hv
      cases hv
      have hSl : S.length = i := by
        have := congrArg List.length hS
        rw [List.length_map, List.length_take] at this
        omega
      have hcS : (lets F)[i] ∉ S.map (·.1) := by
        rw [hS]
        intro z
        have hs := List.take_append_drop i (lets F)
        have hmem : (lets F)[i] ∈ (lets F).drop i := by
          rw [List.drop_eq_getElem_cons hi]
          exact List.mem_cons_self ..
        rw [← hs] at ndL
        exact (List.nodup_append.mp ndL).2.2 _ z _ hmem rfl
      have htk : (lets F).take (i + 1) = (lets F).take i ++ [(lets F)[i]] := take_get (List.getElem?_eq_getElem hi)
      have hmi := List.getElem_mem hi
      generalize (lets F)[i] = cc at hcS htk hmi
      obtain ⟨t, ht1, ht2⟩ := hF1 _ hmi
      obtain ⟨dy, tm, tcell, hy, hym⟩ := htabs _ ht2
      have E4 := e1.trans e3
      have hput : L2.putK (kvF V.ref S) (lK cc) (V.ref tm) = kvF V.ref (S ++ [(cc, tm)]) := by
        rw [putK_new _ (by rw [valV_kvF, lookup_none hcS]; rfl)]
        unfold kvF
        rw [List.map_append]
        rfl
      refine ⟨rfl, _, rfl, _, rfl, _, rfl, c, dxc, _, rfl, E4 _ _ hc, c, d, n, tb, F, cc, t, rfl, hC.same E4, ht1, t, _, dy, _, .ref tm, rfl, E4 _ _ hy, T.c_Table, T.n_Table_masks, rfl, kvF V.ref S, lK cc, rfl, hD3, small1000 (by unfold kvF; rw [List.length_map]; omega), S ++ [(cc, tm)], Same.updn e3 hD, ?_, ?_, ?_⟩
      · rw [upd_same, hput]
      · rw [List.map_append, hS, htk]
        rfl
      · intro q hq
        rcases List.mem_append.mp hq with h | h
        · exact hSt q h
        · rw [List.mem_singleton.mp h]
          exact hym
    rintro H3 ⟨S, e3, hD3, hS, hSt⟩
    rw [List.length_map, List.take_length] at hS
    have E3 : Same H H3 := e1.trans e3
    have hDH : H D = none := e1.free hD
    have Dx : D ≠ x := fun z => by
      rw [z, e1 _ _ hx] at hD
      cases hD
    have cx : c ≠ x := ne_of hc hx (fun z => by injection z with z1 z2 z3; cases z3)
    refine ⟨_, rfl, x, _, dx, [], rfl, E3 _ _ hx, T.c_Lot, T.n_Lot_steps, by decide, ?_⟩
    have X4 : SameX x H (L2.upd H3 x (.ins (ga K "Lot") dx [("steps", .ref D)])) := (SameX.of E3).upd
    have x4 : (L2.upd H3 x (.ins (ga K "Lot") dx [("steps", .ref D)])) x = some (.ins (ga K "Lot") dx [("steps", .ref D)]) := upd_same
    have D4 : (L2.upd H3 x (.ins (ga K "Lot") dx [("steps", .ref D)])) D = some (.dK (kvF V.ref S)) := by rw [upd_ne Dx]; exact hD3
    rw [show HO.ins (ga K "Lot") dx (putF "steps" (V.ref D) []) = .ins (ga K "Lot") dx [("steps", .ref D)] from rfl]
    generalize L2.upd H3 x (.ins (ga K "Lot") dx [("steps", .ref D)]) = H4 at X4 x4 D4 ⊢
    refine ⟨_, rfl, c, _, dxc, _, _, rfl, X4 _ _ cx hc, T.c_Cast, T.n_Cast_size, rfl, n, rfl, fok.n3, fun H5 t0 e5 hn5 ht5 => ⟨_, rfl, x, _, dx, _, rfl, e5 _ _ x4, T.c_Lot, T.n_Lot_start, by show 1 < 1000; decide, ?_⟩⟩
    have t0x : t0 ≠ x := fun z => by
      rw [z, x4] at hn5
      cases hn5
    rw [show HO.ins (ga K "Lot") dx (putF "start" (V.ref t0) [("steps", .ref D)]) = .ins (ga K "Lot") dx [("steps", .ref D), ("start", .ref t0)] from rfl]
    have X6 : SameX x H (L2.upd H5 x (.ins (ga K "Lot") dx [("steps", .ref D), ("start", .ref t0)])) := (X4.trans (SameX.of e5)).upd
    have x6 : (L2.upd H5 x (.ins (ga K "Lot") dx [("steps", .ref D), ("start", .ref t0)])) x = some (.ins (ga K "Lot") dx [("steps", .ref D), ("start", .ref t0)]) := upd_same
    have D6 : (L2.upd H5 x (.ins (ga K "Lot") dx [("steps", .ref D), ("start", .ref t0)])) D = some (.dK (kvF V.ref S)) := by rw [upd_ne Dx]; exact e5 _ _ D4
    have t6 : (L2.upd H5 x (.ins (ga K "Lot") dx [("steps", .ref D), ("start", .ref t0)])) t0 = some (ntup (Mu.idm n)) := by rw [upd_ne t0x]; exact ht5
    generalize L2.upd H5 x (.ins (ga K "Lot") dx [("steps", .ref D), ("start", .ref t0)]) = H6 at X6 x6 D6 t6 ⊢
    refine fun cd hcd => ⟨_, rfl, x, _, dx, _, rfl, by rw [upd_ne (ne_of_none x6 hcd)]; exact x6, T.c_Lot, T.n_Lot_called, by show 2 < 1000; decide, ?_⟩
    rw [show HO.ins (ga K "Lot") dx (putF "called" (V.ref cd) [("steps", .ref D), ("start", .ref t0)]) = .ins (ga K "Lot") dx [("steps", .ref D), ("start", .ref t0), ("called", .ref cd)] from rfl]
    have hcdH : H cd = none := X6.free ⟨_, x6⟩ hcd
    have cdx : cd ≠ x := fun z => by
      rw [z, x6] at hcd
      cases hcd
    have cdD : cd ≠ D := fun z => by
      rw [z, D6] at hcd
      cases hcd
    have cdt : cd ≠ t0 := fun z => by
      rw [z, t6] at hcd
      cases hcd
    have X7 : SameX x H (L2.upd (L2.upd H6 cd (.dT [])) x (.ins (ga K "Lot") dx [("steps", .ref D), ("start", .ref t0), ("called", .ref cd)])) := (SameX.updn X6 hcdH).upd
    have x7 : (L2.upd (L2.upd H6 cd (.dT [])) x (.ins (ga K "Lot") dx [("steps", .ref D), ("start", .ref t0), ("called", .ref cd)])) x = some (.ins (ga K "Lot") dx [("steps", .ref D), ("start", .ref t0), ("called", .ref cd)]) := upd_same
    have D7 : (L2.upd (L2.upd H6 cd (.dT [])) x (.ins (ga K "Lot") dx [("steps", .ref D), ("start", .ref t0), ("called", .ref cd)])) D = some (.dK (kvF V.ref S)) := by rw [upd_ne Dx, upd_ne cdD.symm]; exact D6
    have t7 : (L2.upd (L2.upd H6 cd (.dT [])) x (.ins (ga K "Lot") dx [("steps", .ref D), ("start", .ref t0), ("called", .ref cd)])) t0 = some (ntup (Mu.idm n)) := by rw [upd_ne t0x, upd_ne cdt.symm]; exact t6
    have cd7 : (L2.upd (L2.upd H6 cd (.dT [])) x (.ins (ga K "Lot") dx [("steps", .ref D), ("start", .ref t0), ("called", .ref cd)])) cd = some (.dT (calF [])) := by rw [upd_ne cdx, upd_same]; rfl
    generalize L2.upd (L2.upd H6 cd (.dT [])) x (.ins (ga K "Lot") dx [("steps", .ref D), ("start", .ref t0), ("called", .ref cd)]) = H7 at X7 x7 D7 t7 cd7 ⊢
    refine ⟨Nat.zero_le _, fun io hio => ⟨_, rfl, x, _, dx, _, rfl, by rw [upd_ne (ne_of_none x7 hio)]; exact x7, T.c_Lot, T.n_Lot_in_order, by show 3 < 1000; decide, ?_⟩⟩
    rw [show HO.ins (ga K "Lot") dx (putF "in_order" (V.ref io) [("steps", .ref D), ("start", .ref t0), ("called", .ref cd)]) = .ins (ga K "Lot") dx [("steps", .ref D), ("start", .ref t0), ("called", .ref cd), ("in_order", .ref io)] from rfl]
    have hioH : H io = none := X7.free ⟨_, x7⟩ hio
    have iox : io ≠ x := fun z => by
      rw [z, x7] at hio
      cases hio
    have ioD : io ≠ D := fun z => by
      rw [z, D7] at hio
      cases hio
    have iot : io ≠ t0 := fun z => by
      rw [z, t7] at hio
      cases hio
    have iocd : io ≠ cd := fun z => by
      rw [z, cd7] at hio
      cases hio
    have X8 : SameX x H (L2.upd (L2.upd H7 io (.lst [])) x (.ins (ga K "Lot") dx [("steps", .ref D), ("start", .ref t0), ("called", .ref cd), ("in_order", .ref io)])) := (SameX.updn X7 hioH).upd
    have D8 : (L2.upd (L2.upd H7 io (.lst [])) x (.ins (ga K "Lot") dx [("steps", .ref D), ("start", .ref t0), ("called", .ref cd), ("in_order", .ref io)])) D = some (.dK (kvF V.ref S)) := by rw [upd_ne Dx, upd_ne ioD.symm]; exact D7
    have t8 : (L2.upd (L2.upd H7 io (.lst [])) x (.ins (ga K "Lot") dx [("steps", .ref D), ("start", .ref t0), ("called", .ref cd), ("in_order", .ref io)])) t0 = some (ntup (Mu.idm n)) := by rw [upd_ne t0x, upd_ne iot.symm]; exact t7
    have g8 : GrowAt K (L2.upd (L2.upd H7 io (.lst [])) x (.ins (ga K "Lot") dx [("steps", .ref D), ("start", .ref t0), ("called", .ref cd), ("in_order", .ref io)])) x dx D t0 cd io [] := ⟨[], upd_same, by rw [upd_ne cdx, upd_ne iocd.symm]; exact cd7, by rw [upd_ne iox, upd_same]; rfl, Pts.nil⟩
    generalize L2.upd (L2.upd H7 io (.lst [])) x (.ins (ga K "Lot") dx [("steps", .ref D), ("start", .ref t0), ("called", .ref cd), ("in_order", .ref io)]) = H8 at X8 D8 t8 g8 ⊢
    have x8 : H8 x = some (.ins (ga K "Lot") dx [("steps", .ref D), ("start", .ref t0), ("called", .ref cd), ("in_order", .ref io)]) := g8.choose_spec.1
    have x2 : ∀ {Ha Hb : Hp}, SameX x H Ha → Same2 cd io Ha Hb → SameX x H Hb := fun ea eb b o hb h => eb b o (ne_of_none h hcdH) (ne_of_none h hioH) (ea b o hb h)
    refine ⟨_, rfl, x, dx, _, rfl, x8, rfl, _, rfl, x, _, dx, _, .ref t0, rfl, x8, T.c_Lot, T.n_Lot_start, rfl, _, rfl, ?_⟩
    refine ⟨x, dx, D, t0, cd, io, t0, [], Mu.idm n, [], rfl, g8, t8, Nat.zero_le _, fun h => absurd h (by simp), fun _ _ H9 e9 g9 => ?_, fun _ h => absurd h (by simp)⟩
    have X9 := x2 X8 e9
    have D9 : H9 D = some (.dK (kvF V.ref S)) := e9 _ _ cdD.symm ioD.symm D8
    have t9 : H9 t0 = some (ntup (Mu.idm n)) := e9 _ _ cdt.symm iot.symm t8
    rw [List.nil_append] at g9
    have egs : (lets F).map tb = S.map fun q => tb q.1 := by
      rw [← hS, List.map_map]
      rfl
    generalize hgs : (lets F).map tb = gs at k1 k2 egs
    have hSrel : ∀ c' ∈ S.map (·.1), Mu.Rel n (tb c') := fun c' h => by
      rw [hS] at h
      obtain ⟨t, _, h2⟩ := hF1 c' h
      exact fok.rel c' (List.mem_map_of_mem (f := (·.1)) h2)
    have sok : SOk n tb S := ⟨fok.n1, fok.n3, hSrel⟩
    have Stx : ∀ q ∈ S, q.2 ≠ x := fun q hq => ne_of (hSt q hq) hx (fun z => by unfold ntup at z; cases z)
    -- what a lot is between the turns
    let Good : List (List Nat × List Nat) → Hp → Prop := fun C H' => SameX x H H' ∧ H' t0 = some (ntup (Mu.idm n)) ∧ GrowAt K H' x dx D t0 cd io C ∧ (∀ q ∈ C, q.2.length < C.length) ∧ (∀ q ∈ C, Mu.Rel n q.1) ∧ C.length ≤ 60
    refine ⟨fun m σ H' => ∃ (at_ : Nat) (C : List (List Nat × List Nat)) (z3 z5 : Option V), σ = [some (.ref x), some (.ref c), some (.int 60), z3, some (nV at_), z5] ∧ m = 61 - at_ ∧ at_ ≤ C.length ∧ Good C H' ∧ H' D = some (.dK (kvF V.ref S)) ∧ Mu.lotF gs (61 - at_) at_ (C.map (·.1)) = Mu.due n gs,
      ⟨61, 0, [(Mu.idm n, [])], none, none, rfl, rfl, Nat.zero_le _, ⟨X9, t9, g9, by simp, by simp [Mu.idm_rel], by simp⟩, D9, rfl⟩, ?_⟩
    rintro m σ H' ⟨at_, C, z3, z5, rfl, rfl, hat, ⟨eG, tG, gG, nG, rG, lG⟩, DG, hdue⟩
    obtain ⟨ms, gx, gcd, gio, gp⟩ := id gG
    have hml : ms.length = C.length := by rw [gp.1, List.length_map, List.length_map]
    refine ⟨_, rfl, _, rfl, x, _, dx, _, .ref io, rfl, gx, T.c_Lot, T.n_Lot_in_order, rfl, io, _, rfl, .inl (SqL.of gio), _, _, rfl, rfl, _, rfl, ?_⟩
    rw [List.length_map, hml]
    by_cases hlt : at_ < C.length
    rotate_left
    · rw [decide_eq_false (show ¬ ((at_ : Nat) : Int) < ((C.length : Nat) : Int) by omega)]
      refine iteF ?_
      have hend : Mu.lotF gs (61 - at_) at_ (C.map (·.1)) = C.map (·.1) := lotF_end (by rw [List.getElem?_eq_none]; rw [List.length_map]; omega)
      rw [hend] at hdue
      refine k1 (by rw [← hdue, List.length_map]; exact lG) _ S C eG ⟨dx, D, t0, cd, io, gx, ⟨DG, fun q hq => eG _ _ (Stx q hq) (hSt q hq)⟩, tG, gcd⟩ sok hS hdue
    rw [decide_eq_true (show ((at_ : Nat) : Int) < ((C.length : Nat) : Int) by omega)]
    refine iteT ⟨fun σ' H'' => ∃ (at2 : Nat) (C : List (List Nat × List Nat)) (z3 z5 : Option V), σ' = [some (.ref x), some (.ref c), some (.int 60), z3, some (nV at2), z5] ∧ 61 - (at_ + 1) = 61 - at2 ∧ at2 ≤ C.length ∧ Good C H'' ∧ H'' D = some (.dK (kvF V.ref S)) ∧ Mu.lotF gs (61 - at2) at2 (C.map (·.1)) = Mu.due n gs, fun σ' H'' h => ⟨61 - (at_ + 1), by omega, h⟩, ?_⟩
    have hatm : at_ < (C.map (·.1)).length := by rw [List.length_map]; exact hlt
    obtain ⟨p, hp1, hp2⟩ := gp.get (i := at_) (o := ntup (C.map (·.1))[at_]) (by rw [List.getElem?_map, List.getElem?_eq_getElem hatm]; rfl)
    have hL : (C.map (·.1))[at_]? = some (C.map (·.1))[at_] := List.getElem?_eq_getElem hatm
    have haC : (C.map (·.1))[at_] ∈ C.map (·.1) := List.getElem_mem hatm
    generalize (C.map (·.1))[at_] = a at hp2 hL haC
    have ra : Mu.Rel n a := by
      obtain ⟨q, hq, rfl⟩ := List.mem_map.mp haC
      exact rG q hq
    have hf : 61 - at_ = (61 - (at_ + 1)) + 1 := by omega
    rw [hf, lotF_step hL (by rw [List.length_map]; exact lG)] at hdue
    refine ⟨_, rfl, x, _, dx, _, .ref io, rfl, gx, T.c_Lot, T.n_Lot_in_order, rfl, _, rfl, io, _, _, .ref p, rfl, rfl, SqL.of gio, atI_nat (by rw [List.getElem?_map, hp1]; rfl), ?_⟩
    refine ⟨D, .dK (kvF V.ref S), DG, trivial, fun od => ?_⟩
    have hDs : ∀ {b : Addr} {o : HO}, H' b = some o → (∀ l, o ≠ .dK l) → b ≠ D := fun h1 h2 => ne_of h1 DG (h2 _)
    have fz : ∀ {b : Addr} {o : HO}, H' b = some o → (∀ l, o ≠ .dK l) → (L2.upd H' D (.frz od (.dK (kvF V.ref S)))) b = some o := fun h1 h2 => by rw [upd_ne (hDs h1 h2)]; exact h1
    have gF : GrowAt K (L2.upd H' D (.frz od (.dK (kvF V.ref S)))) x dx D t0 cd io C := by
      refine ⟨ms, fz gx (fun l z => by cases z), fz gcd (fun l z => by cases z), fz gio (fun l z => by cases z), gp.upd (Pts.notin gp DG fun u hu z => ?_)⟩
      obtain ⟨r, _, rfl⟩ := List.mem_map.mp hu
      unfold ntup at z
      cases z
    refine ⟨_, rfl, x, _, dx, _, .ref D, rfl, fz gx (fun l z => by cases z), T.c_Lot, T.n_Lot_steps, rfl, D, od, rfl, .inl ⟨kvF V.ref S, upd_same, for_it (walk_keys (kvs := kvF V.ref S)) (fun j σ H2 => ∃ (C2 : List (List Nat × List Nat)) (z3 : Option V), σ = [some (.ref x), some (.ref c), some (.int 60), z3, some (nV at_), some (.ref p)] ∧ Good C2 H2 ∧ H2 D = some (.frz od (.dK (kvF V.ref S))) ∧ H2 p = some (ntup a) ∧ C2.map (·.1) = Mu.stepM (gs.take j) (C.map (·.1)) a)
      ⟨C, z3, rfl, ⟨SameX.updn eG hDH, fz tG (fun l z => by unfold ntup at z; cases z), gF, nG, rG, lG⟩, upd_same, fz hp2 (fun l z => by unfold ntup at z; cases z), rfl⟩ (fun j σ H2 _ ⟨C2, z3, h1, h2, h3, _⟩ => h3) ?_ ?_⟩⟩
    · rintro j v σ H2 H2' hj ⟨C2, z3, rfl, ⟨e2, t2, g2, n2, r2, l2⟩, D2, p2, hC2⟩ ⟨rfl, kk, vv, hkv, rfl⟩
      have hjS : j < S.length := by
        unfold kvF at hj
        rw [List.length_map] at hj
        exact hj
      obtain ⟨cc, m, hSj, rfl, rfl⟩ : ∃ cc m, S[j]? = some (cc, m) ∧ kk = lK cc ∧ vv = V.ref m := by
        unfold kvF at hkv
        rw [List.getElem?_map, List.getElem?_eq_getElem hjS] at hkv
        cases hkv
        exact ⟨S[j].1, S[j].2, List.getElem?_eq_getElem hjS, rfl, rfl⟩
      have hmS : (cc, m) ∈ S := List.mem_of_getElem? hSj
      have hlook : S.lookup cc = some m := by
        obtain ⟨b, h1, h2⟩ := lookup_some (F := S) (c := cc) (List.mem_map_of_mem (f := (·.1)) hmS)
        have ndS : (S.map (·.1)).Nodup := by rw [hS]; exact ndL
        rw [h1]
        obtain ⟨q, hq⟩ := List.mem_iff_getElem?.mp h2
        have hqj : q = j := by
          have hq1 : (S.map (·.1))[q]? = some cc := by rw [List.getElem?_map, hq]; rfl
          have hq2 : (S.map (·.1))[j]? = some cc := by rw [List.getElem?_map, hSj]; rfl
          obtain ⟨hql, hq3⟩ := List.getElem?_eq_some_iff.mp hq1
          obtain ⟨hjl, hj3⟩ := List.getElem?_eq_some_iff.mp hq2
          exact (List.getElem_inj (h₀ := hql) (h₁ := hjl) ndS).mp (hq3.trans hj3.symm)
        rw [hqj, hSj] at hq
        cases hq
        rfl
      have hm2 : H2' m = some (ntup (tb cc)) := e2 _ _ (Stx _ hmS) (hSt _ hmS)
      have hrc : Mu.Rel n (tb cc) := hSrel cc (List.mem_map_of_mem (f := (·.1)) hmS)
      have haC2 : a ∈ C2.map (·.1) := by
        rw [hC2]
        obtain ⟨r, hr⟩ := Mu.stepM_pre a (gs.take j) (C.map (·.1))
        rw [hr]
        exact List.mem_append_left _ haC
      obtain ⟨nm, hnm1, hnm2⟩ := lookL_some haC2
      have hnl : nm.length < C2.length := n2 _ hnm2
      obtain ⟨ms2, gx2, gcd2, gio2, gp2⟩ := id g2
      have gsj : gs[j]? = some (tb cc) := by
        rw [egs, List.getElem?_map, hSj]
        rfl
      have gdk : DGet H2' D (lV cc) (some (.ref m)) := .inl ⟨_, lK cc, .inr ⟨od, D2⟩, rfl, by rw [valV_kvF, hlook]; rfl⟩
      refine ⟨_, rfl, x, dx, _, rfl, gx2, rfl, _, rfl, _, rfl, x, _, dx, _, .ref D, rfl, gx2, T.c_Lot, T.n_Lot_steps, rfl, _, rfl, D, .ref m, rfl, gdk, p, m, _, _, rfl, p2, hm2, Sm.rel fok.n3 ra, Sm.rel fok.n3 hrc, fun H5 t5 e5 hn5 ht5 => ?_⟩
      have gG5 := g2.same e5
      have e25 : SameX x H H5 := e2.trans (SameX.of e5)
      have gdn := DGet.t (k := a.map kI) (e5 _ _ gcd2) (by rw [kI_tup]; exact e5 _ _ p2)
      rw [calF_get, hnm1] at gdn
      refine ⟨_, rfl, x, _, dx, _, .ref cd, rfl, e5 _ _ gx2, T.c_Lot, T.n_Lot_called, rfl, _, rfl, cd, .str (SX.S nm), rfl, gdn, _, rfl, _, _, rfl, rfl, ?_, ?_⟩
      · rw [SX.S_len]
        exact Nat.le_of_lt (small1000 (by show nm.length + 1 ≤ 1000; omega))
      have D5 := e5 _ _ D2
      have cdD2 : cd ≠ D := cdD
      refine ⟨_, rfl, x, dx, D, t0, cd, io, t5, C2, Mu.prod a (tb cc), nm ++ [cc], ?_, gG5, ht5, l2, fun hM => ?_, fun hM h59 H6 e6 g6 => ?_, fun hM h60 H6 d6 e6 hd6 hx6 => ?_⟩
      · show [V.ref x, V.ref t5, V.str (SX.S nm ++ SX.S [cc]), V.int 60] = _
        rw [SX.S_cat]
      · refine ⟨C2, some (lV cc), rfl, ⟨e25, e5 _ _ t2, gG5, n2, r2, l2⟩, D5, e5 _ _ p2, ?_⟩
        rw [stepM_take gsj, ← hC2]
        exact (if_pos hM).symm
      · have e26 := x2 e25 e6
        have e56 : ∀ {b : Addr} {o : HO}, H5 b = some o → b ≠ cd → b ≠ io → H6 b = some o := fun h h1 h2 => e6 _ _ h1 h2 h
        have pcd : p ≠ cd := ne_of p2 gcd2 (fun z => by unfold ntup at z; cases z)
        have pio : p ≠ io := ne_of p2 gio2 (fun z => by unfold ntup at z; cases z)
        refine ⟨C2 ++ [(Mu.prod a (tb cc), nm ++ [cc])], some (lV cc), rfl, ⟨e26, e56 (e5 _ _ t2) cdt.symm iot.symm, g6, fun q hq => ?_, fun q hq => ?_, by rw [List.length_append]; show C2.length + 1 ≤ 60; omega⟩, e56 D5 cdD.symm ioD.symm, e56 (e5 _ _ p2) pcd pio, ?_⟩
        · rw [List.length_append]
          rcases List.mem_append.mp hq with h | h
          · have := n2 q h
            omega
          · rw [List.mem_singleton.mp h]
            show (nm ++ [cc]).length < C2.length + 1
            rw [List.length_append]
            show nm.length + 1 < C2.length + 1
            omega
        · rcases List.mem_append.mp hq with h | h
          · exact r2 q h
          · rw [List.mem_singleton.mp h]
            exact Mu.prod_rel ra hrc
        · rw [stepM_take gsj, ← hC2, List.map_append]
          exact (if_neg hM).symm
      · refine k2 ?_ H6 d6 (fun b o hb h => e6 b o (e25 b o hb h)) ?_ hx6
        · have hbig : 60 < (Mu.stepM gs (C.map (·.1)) a).length := by
            have h1 := stepM_mono gs (C.map (·.1)) a (j + 1)
            rw [stepM_take gsj, ← hC2] at h1
            have h2 : Mu.addM (C2.map (·.1)) (Mu.prod a (tb cc)) = C2.map (·.1) ++ [Mu.prod a (tb cc)] := if_neg hM
            rw [h2, List.length_append, List.length_map] at h1
            have h1 : C2.length + 1 ≤ (Mu.stepM gs (C.map (·.1)) a).length := h1
            omega
          rw [← hdue, lotF_big _ _ _ _ hbig]
          exact hbig
        · exact e25.free ⟨_, e5 _ _ gx2⟩ hd6
    · rintro σ H2 ⟨C2, z3, rfl, ⟨e2, t2, g2, n2, r2, l2⟩, D2, p2, hC2⟩
      have hlen : (kvF V.ref S).length = gs.length := by
        rw [egs]
        unfold kvF
        rw [List.length_map, List.length_map]
      rw [hlen, List.take_length] at hC2
      refine ⟨D2, ?_⟩
      have hne : ∀ {b : Addr} {o : HO}, H2 b = some o → (∀ u, o ≠ .frz od u) → b ≠ D := fun h1 h2 => ne_of h1 D2 (h2 _)
      have un : ∀ {b : Addr} {o : HO}, H2 b = some o → (∀ u, o ≠ .frz od u) → (L2.upd H2 D (.dK (kvF V.ref S))) b = some o := fun h1 h2 => by rw [upd_ne (hne h1 h2)]; exact h1
      obtain ⟨ms2, gx2, gcd2, gio2, gp2⟩ := id g2
      have g3 : GrowAt K (L2.upd H2 D (.dK (kvF V.ref S))) x dx D t0 cd io C2 := by
        refine ⟨ms2, un gx2 (fun l z => by cases z), un gcd2 (fun l z => by cases z), un gio2 (fun l z => by cases z), gp2.upd (Pts.notin gp2 D2 fun u hu z => ?_)⟩
        obtain ⟨r, _, rfl⟩ := List.mem_map.mp hu
        unfold ntup at z
        cases z
      have hC2l : C.length ≤ C2.length := by
        obtain ⟨r, hr⟩ := Mu.stepM_pre a gs (C.map (·.1))
        have := congrArg List.length (hC2.trans hr)
        rw [List.length_map, List.length_append, List.length_map] at this
        omega
      refine ⟨_, rfl, _, _, rfl, rfl, at_ + 1, C2, z3, some (.ref p), rfl, rfl, by omega, ⟨SameX.updn e2 hDH, un t2 (fun l z => by unfold ntup at z; cases z), g3, n2, r2, l2⟩, upd_same, ?_⟩
      rw [hC2]
      exact hdue
end
end Mz
/-! promises that hold where no guard stands (str of lists looks at the guards) -/
namespace Mz
open PySem PySem.Spec PyProof.Rows L2 He C8
structure FnG (P : Program) (w : World) (K : PySem.W.Frag) (mg : Str → Option Value) (base : Heap) (CX : CXT) (k : Nat) (f : Addr) (fd : FuncData) (ps : List Str) (sp : Sp) : Prop where
  len : ∀ vs H Q E, sp vs H Q E → vs.length = ps.length
  go : ∀ (A : Around) (outer : List Env) (s : Shared) (H : Hp) (args : Args) (us : List Value) (vs : List V) (Q : VK) (E : XK), A.guards = some [] → Room k A → Env0 P w K mg base A outer s H → BindsTo s fd args (ps.zip us) → Vals vs us → sp vs H Q E →
    codeAny (model P w) A (.call (.ref f) args) (CR CX outer P w H s Q E) s
section
variable {P : Program} {w : World} {K : PySem.W.Frag} {mg : Str → Option Value} {base : Heap}
theorem fnG {CX : CXT} {x : Str} {st : Stmt} {f : Addr} {fd : FuncData} {N ps : List Str} {k : Nat} {sp : Sp} (F : FunD K x x (defArgs st) (defBody st) (defScope st) [] [] f fd) (S : FnScope N ps (defScope st)) (len : ∀ vs H Q E, sp vs H Q E → vs.length = ps.length)
    (hbody : ∀ (cdv : Value) (A : Around) (outer : List Env) (s : Shared) (H : Hp) (vs : List V) (Q : VK) (E : XK), (A.deeper (envOfC x (defScope st) s.heap.objs.size f cdv)).guards = some [] → Room k (A.deeper (envOfC x (defScope st) s.heap.objs.size f cdv)) → sp vs H Q E →
      ∃ t, PSs (cxOf CX P w K mg base N x (defScope st) f cdv A outer s H E) (defBody st) t ∧ t { nx := fun _ H' => Q .non H', rt := Q } (L2.start N vs) H) : FnG P w K mg base CX (k + 1) f fd ps sp := by
  refine ⟨len, fun A outer s H args us vs Q E hgd hr e0 hb r hsp => ?_⟩
  obtain ⟨oc, od, dV, kV, doc, pm, an, cdv, ct, osl, rfl, lk, hcd, _, _⟩ := F.ex
  have hl := len _ _ _ _ hsp
  have KX : K.In s.heap := e0.mod.kin.keeps fun b o e => (e0.bs b o e).1
  have lim : s.heap.NoLimit := e0.mod.nolimit.keeps fun b o e => (e0.bs b o e).1
  have hkind : ∀ y ∈ ps.zip us, (defScope st).names.lookup y.1 = some .local ∨ ((defScope st).names.lookup y.1 = some .cell ∧ ((cellsFrom (s.heap.objs.size + 1) (defScope st).names []).lookup y.1).isSome = true) := fun ⟨n, v⟩ hy =>
    (S.par n (List.of_mem_zip hy).1).imp id fun q => ⟨q, PySem.W.cellsFrom_some _ _ _ (.inl q)⟩
  refine codeAny_call_function hr.depth (KX _ _ lk) rfl S.co S.gen rfl (PySem.W.codeRec_of KX hcd) (hb _ _ _ _ (wpAny_newFunctionEnv_cells S.kind hkind fun env he s1 z1 => ?_))
  subst he; refine ⟨lim.keeps z1.toInCall.keep, codeAny_func ?_⟩
  obtain ⟨t, ht, hq⟩ := hbody cdv A outer s H vs Q E hgd (hr.deeper _) hsp
  have I : Inv (cxOf CX P w K mg base N x (defScope st) f cdv A outer s H E) [] (L2.start N vs) H s1 := inv_start S hr.hd e0 hl r z1
  refine wpAny_mono (ht.run [] s1 (L2.start N vs) H _ I hq) (fun fl s' hs => ?_) fun e s' hs => hs
  have fin : ∀ {σ' : L2.St} {H' : Hp} {v : V} {u : Value}, Inv (cxOf CX P w K mg base N x (defScope st) f cdv A outer s H E) [] σ' H' s' → L2.RelV v u → Q v H' → CE outer P w H s Q u s' :=
    fun {σ' H' v u} J rv q => ⟨v, H', J.os, J.bare, J.base, J.hok, rv, q⟩
  cases fl with
  | ret u => obtain ⟨v, σ', H', J, rv, q⟩ := hs; exact fin J rv q
  | next => obtain ⟨σ', H', J, q⟩ := hs; exact fin (v := V.non) (u := Value.none) J rfl q
  | brk => obtain ⟨_, _, _, q⟩ := hs; exact False.elim q
  | cont => obtain ⟨_, _, _, q⟩ := hs; exact False.elim q
structure CalG (P : Program) (w : World) (K : PySem.W.Frag) (mg : Str → Option Value) (base : Heap) (k : Nat) (x : Str) (sp : Sp) : Prop where
  ex : ∃ (f : Addr) (fd : FuncData) (ps : List Str), FnG P w K mg base C8.CX0 k f fd ps sp ∧ mg x = some (.ref f) ∧ PySem.W.keepIn K (.ref f) = true ∧ Binds K fd ps []
end
section
variable {X : Cx} {k j : Nat} {x : Str} {sp : Sp} {p pos : Pos} {e : Expr} {es : List Expr} {t : TA}
theorem pe_cG (c : CalG X.prog X.w X.K X.mg X.base k x sp) (hgd : X.A.guards = some []) (hr : Room j X.A) (hk : k ≤ j) (hg : Gl X x) (ha : PA X (e :: es) t)
    (hdb : (x == ("__debug__" : Str)) = false := by decide) (he : starEach (e :: es) X.env = (false, eval e X.env) :: starEach es X.env := by rfl) (hpl : (backTo pos (starEach es X.env)).any (·.1) = false := by rfl) :
    PE X (.Call (.Name x p) (e :: es) [] pos) (tCall sp [] C8.E0 t) := by
  obtain ⟨f, fd, ps, F, hm, hkp, hb⟩ := c.ex
  refine ⟨fun pins s σ H Q I h => ?_⟩
  refine wpAny_Call_Name_kw (ld_glob I hg hm ?_ hdb)
  refine PySem.W.callWith_K (h₀ := X.base) I.ok.mod.kin hkp (thn (ha.run pos pins s σ H _ I h) fun us s1 ⟨vs, H1, I1, r, q⟩ => ⟨I1.kIn, ?_⟩) he hpl
  have q : sp vs H1 Q C8.E0 := by rw [← List.append_nil vs]; exact q
  have hl : (us ++ []).length = ps.length := by rw [List.append_nil, ← r.length]; exact F.len _ _ _ _ q
  have hb1 := hb s1 us I1.kIn hl
  rw [List.append_nil] at hb1
  refine wpAny_call (codeAny_mono (F.go X.A X.stack s1 H1 ⟨us, []⟩ us vs Q C8.E0 hgd (hr.mono hk) I1.env0 hb1 r q) fun r s' hq => ?_)
  cases r with
  | error e => exact False.elim hq
  | ok fl =>
    cases fl with
    | ret u => exact I1.after hq
    | next => exact False.elim hq
    | brk => exact False.elim hq
    | cont => exact False.elim hq
end
end Mz
/-! str of a list of lists of words -/
namespace Mz
open PySem PySem.Spec PyProof.Rows L2 He C8
theorem rd_ints {h : Heap} : ∀ {A : List Nat} {us : List Value}, Vals (A.map nV) us → ReadsAll h us (A.map dI) []
  | [], _, r => by cases r; exact .nil
  | a :: A, _, r => by
    cases r with
    | cons r1 r2 =>
      obtain ⟨t, rfl⟩ := r1
      exact .cons (as := []) (.int _ t) (rd_ints r2)
theorem rd_nlst {P : Program} {w : World} {H : Hp} {h : Heap} {a : Addr} {A : List Nat} (hok : HOk P w H h) (e : H a = some (nlst A)) : Reads h (.ref a) (dL A) [a] := by
  obtain ⟨_, its, n, r, o⟩ := (show ObjOk P w H h a (.lst (A.map nV)) from hok a _ e)
  exact .list o rfl rfl (rd_ints (by simpa using r))
theorem rd_rows {P : Program} {w : World} {H : Hp} {h : Heap} (hok : HOk P w H h) : ∀ {R : List (List Nat)} {ls : List Addr} {us : List Value}, ls.length = R.length → (∀ (i : Nat) (a : Addr) (r : List Nat), ls[i]? = some a → R[i]? = some r → H a = some (nlst r)) → Vals (ls.map V.ref) us → ∃ as, ReadsAll h us (R.map dL) as
  | [], [], _, _, _, r => by cases r; exact ⟨_, .nil⟩
  | [], a :: ls, _, hl, _, _ => by cases hl
  | r :: R, [], _, hl, _, _ => by cases hl
  | r :: R, a :: ls, _, hl, hp, v => by
    cases v with
    | cons v1 v2 =>
      obtain ⟨as, ih⟩ := rd_rows hok (R := R) (ls := ls) (Nat.succ.inj hl) (fun i b q x y => hp (i + 1) b q x y) v2
      have hu : _ = Value.ref a := v1
      subst hu
      exact ⟨_, .cons (rd_nlst hok (hp 0 a r rfl rfl)) ih⟩
theorem rd_all {P : Program} {w : World} {H : Hp} {h : Heap} {l : Addr} {R : List (List Nat)} (hok : HOk P w H h) (hR : RowsAt H l R) : ∃ as, Reads h (.ref l) (.list (R.map dL)) as := by
  obtain ⟨ls, h1, h2⟩ := hR
  obtain ⟨_, its, n, r, o⟩ := (show ObjOk P w H h l (.lst (ls.map V.ref)) from hok l _ h1)
  obtain ⟨as, ih⟩ := rd_rows hok (R := R) (ls := ls) (us := its) (by rw [h2.1, List.length_map]) (fun i a q x y => h2.2 i a _ x (by rw [List.getElem?_map, y]; rfl)) r
  exact ⟨_, .list o rfl rfl (by simpa using ih)⟩
theorem sw_ints : ∀ {A : List Nat}, (∀ a ∈ A, a < 8) → PyData.showableAll (A.map dI) = true
  | [], _ => by rw [List.map_nil, PyData.showableAll]
  | a :: A, h => by
    have ha := h a (List.mem_cons_self ..)
    rw [List.map_cons, PyData.showableAll, sw_ints fun x hx => h x (List.mem_cons_of_mem _ hx), Bool.and_true, PyData.showable]
    refine decide_eq_true ?_
    have : Nat.log2 a ≤ a := Nat.log2_le_self a
    show Nat.log2 (Int.natAbs ((a : Nat) : Int)) < 1920
    rw [Int.natAbs_natCast]
    omega
theorem sw_rows : ∀ {R : List (List Nat)}, (∀ r ∈ R, ∀ a ∈ r, a < 8) → PyData.showableAll (R.map dL) = true
  | [], _ => by rw [List.map_nil, PyData.showableAll]
  | r :: R, h => by
    rw [List.map_cons, PyData.showableAll, sw_rows fun x hx => h x (List.mem_cons_of_mem _ hx), Bool.and_true, PyData.showable]
    exact sw_ints (h r (List.mem_cons_self ..))
theorem nd_ints : ∀ A : List Nat, PyData.hasDictAll (A.map dI) = false
  | [] => by rw [List.map_nil, PyData.hasDictAll]
  | a :: A => by rw [List.map_cons, PyData.hasDictAll, nd_ints A, Bool.or_false, PyData.hasDict]
theorem nd_rows : ∀ R : List (List Nat), PyData.hasDictAll (R.map dL) = false
  | [] => by rw [List.map_nil, PyData.hasDictAll]
  | r :: R => by rw [List.map_cons, PyData.hasDictAll, nd_rows R, Bool.or_false, PyData.hasDict, nd_ints]
/-- the text of rows -/
def shR2 (R : List (List Nat)) : Str := PyData.shown (.list (R.map dL))
theorem dep_rows (R : List (List Nat)) : (PyData.list (R.map dL)).depth ≤ 3 := by
  have := depR R
  simp only [PyData.depth]
  omega
section
variable {X : Cx}
/-- str(rows) -/
theorem call_strR (hgd : X.A.guards = some []) (hu : X.A.units + 64 < cLine) : CallR X (.type "str") (fun xs H Q => ∃ (l : Addr) (R : List (List Nat)), xs = [.ref l] ∧ RowsAt H l R ∧ (∀ r ∈ R, ∀ a ∈ r, a < 8) ∧ (shR2 R).length ≤ sizeLine ∧ Q (.str (shR2 R)) H) := by
  intro pins s σ H xs us Q I r h
  obtain ⟨l, R, rfl, hR, h8, hz, q⟩ := h
  obtain ⟨u, eu, rx⟩ := vals1 r
  subst eu
  have hul : u = Value.ref l := rx
  subst hul
  obtain ⟨as, rd⟩ := rd_all I.hok hR
  have hd := dep_rows R
  refine PySem.str_of_reads rd (by rw [PyData.showable]; exact sw_rows h8) (fun z => by rw [PyData.hasDict, nd_rows] at z; cases z) hgd (by omega) (fun _ _ e => e) (fun h' t tk hk => ?_) hz
  exact ⟨.str (shR2 R), H, I.kept (t' := tk) hk, ⟨t, rfl⟩, q⟩
end
end Mz
/-! different rows have different texts -/
namespace Mz
open PySem PySem.Spec PyProof.Rows L2 He C8
theorem shown_ints : ∀ A : List Nat, PyData.shownAll (A.map dI) = A.map fun a => (toString ((a : Nat) : Int) : Str)
  | [] => by rw [List.map_nil, PyData.shownAll]; rfl
  | a :: A => by rw [List.map_cons, PyData.shownAll, shown_ints A, PyData.shown]; rfl
theorem shown_rows : ∀ R : List (List Nat), PyData.shownAll (R.map dL) = R.map fun r => listText (r.map fun a => (toString ((a : Nat) : Int) : Str))
  | [] => by rw [List.map_nil, PyData.shownAll]; rfl
  | r :: R => by rw [List.map_cons, PyData.shownAll, shown_rows R, PyData.shown, shown_ints]; rfl
theorem shR2_eq (R : List (List Nat)) : shR2 R = listText (R.map fun r => listText (r.map fun a => (toString ((a : Nat) : Int) : Str))) := by
  unfold shR2
  rw [PyData.shown, shown_rows]
def decS (s : List (List Nat) × List Nat × Nat) (c : Nat) : List (List Nat) × List Nat × Nat :=
  if c = 91 then (s.1, [], s.2.2 + 1) else if c = 93 then (if s.2.2 = 2 then (s.1 ++ [s.2.1], [], 1) else s) else if 48 ≤ c then (s.1, s.2.1 ++ [c - 48], s.2.2) else s
def decT (t : Str) : List (List Nat) := (t.cps.toList.foldl decS ([], [], 0)).1
def chk (R : List (List Nat)) : Bool := decide (decT (shR2 R) = R) && decide ((shR2 R).length ≤ 1000)
theorem chk1 : ∀ a : _root_.Fin 2, chk [Mu.bitsL a.1] = true := by
  intro a
  unfold chk
  rw [shR2_eq]
  revert a
  decide +kernel
theorem chk2 : ∀ a b : _root_.Fin 4, chk [Mu.bitsL a.1, Mu.bitsL b.1] = true := by
  intro a b
  unfold chk
  rw [shR2_eq]
  revert a b
  decide +kernel
theorem chk3 : ∀ a b c : _root_.Fin 8, chk [Mu.bitsL a.1, Mu.bitsL b.1, Mu.bitsL c.1] = true := by
  intro a b c
  unfold chk
  rw [shR2_eq]
  revert a b c
  decide +kernel
theorem chk_rel {n : Nat} {M : List Nat} (n1 : 1 ≤ n) (n3 : n ≤ 3) (h : Mu.Rel n M) : chk (M.map Mu.bitsL) = true := by
  obtain ⟨hl, hm⟩ := h
  rcases (show n = 1 ∨ n = 2 ∨ n = 3 by omega) with e | e | e
  · subst e
    match M, hl with
    | [a], _ => exact chk1 ⟨a, hm a (by simp)⟩
  · subst e
    match M, hl with
    | [a, b], _ => exact chk2 ⟨a, hm a (by simp)⟩ ⟨b, hm b (by simp)⟩
  · subst e
    match M, hl with
    | [a, b, c], _ => exact chk3 ⟨a, hm a (by simp)⟩ ⟨b, hm b (by simp)⟩ ⟨c, hm c (by simp)⟩
theorem bitsL_inj8 : ∀ a b : _root_.Fin 8, Mu.bitsL a.1 = Mu.bitsL b.1 → a = b := by decide +kernel
theorem rows_inj : ∀ {n : Nat} {A B : List Nat}, n ≤ 3 → (∀ m ∈ A, m < 2 ^ n) → (∀ m ∈ B, m < 2 ^ n) → A.map Mu.bitsL = B.map Mu.bitsL → A = B
  | _, [], [], _, _, _, _ => rfl
  | _, [], b :: B, _, _, _, h => by cases h
  | _, a :: A, [], _, _, _, h => by cases h
  | n, a :: A, b :: B, n3, ha, hb, h => by
    rw [List.map_cons, List.map_cons] at h
    injection h with h1 h2
    have l8 : ∀ {m : Nat}, m < 2 ^ n → m < 8 := fun h => Nat.lt_of_lt_of_le h (by rcases (show n = 0 ∨ n = 1 ∨ n = 2 ∨ n = 3 by omega) with h | h | h | h <;> (subst h; decide))
    have := bitsL_inj8 ⟨a, l8 (ha a (List.mem_cons_self ..))⟩ ⟨b, l8 (hb b (List.mem_cons_self ..))⟩ h1
    have e : a = b := congrArg (·.1) this
    rw [e, rows_inj n3 (fun m hm => ha m (List.mem_cons_of_mem _ hm)) (fun m hm => hb m (List.mem_cons_of_mem _ hm)) h2]
theorem txt_inj {n : Nat} {A B : List Nat} (n1 : 1 ≤ n) (n3 : n ≤ 3) (ha : Mu.Rel n A) (hb : Mu.Rel n B) (h : shR2 (A.map Mu.bitsL) = shR2 (B.map Mu.bitsL)) : A = B := by
  have ca := of_decide_eq_true (Bool.and_eq_true_iff.mp (chk_rel n1 n3 ha)).1
  have cb := of_decide_eq_true (Bool.and_eq_true_iff.mp (chk_rel n1 n3 hb)).1
  rw [h, cb] at ca
  exact rows_inj n3 ha.2 hb.2 ca.symm
theorem txt_len {n : Nat} {A : List Nat} (n1 : 1 ≤ n) (n3 : n ≤ 3) (ha : Mu.Rel n A) : (shR2 (A.map Mu.bitsL)).length ≤ 1000 := of_decide_eq_true (Bool.and_eq_true_iff.mp (chk_rel n1 n3 ha)).2
end Mz
namespace Mz
open PySem PySem.Spec PyProof.Rows L2 He C8
theorem odd_dK {kvs : List (Key × V)} : Odd (.dK kvs) := by
  refine ⟨fun ls z => ?_, fun A z => ?_, fun A z => ?_⟩
  · cases z
  · unfold nlst at z; cases z
  · unfold ntup at z; cases z
theorem odd_frz {o : Obj} {u : HO} : Odd (.frz o u) := by
  refine ⟨fun ls z => ?_, fun A z => ?_, fun A z => ?_⟩
  · cases z
  · unfold nlst at z; cases z
  · unfold ntup at z; cases z
theorem rows_updS {H : Hp} {l s : Addr} {o : HO} {es : List Addr} {R : List (List Nat)} (hl : H l = some (.lst (es.map V.ref))) (hne : es ≠ []) (he : ∀ p ∈ es, ∃ t x, H p = some (.lst (.str t :: x))) (h : RowsAt H s R) (hR : R ≠ []) : RowsAt (L2.upd H l o) s R := by
  obtain ⟨ls, h1, h2⟩ := h
  have nlr : ∀ X : List Nat, nlst X ≠ .lst (es.map V.ref) := fun X z => by
    unfold nlst at z
    injection z with z
    cases X with
    | nil =>
      cases es with
      | nil => exact hne rfl
      | cons e es => cases z
    | cons a X =>
      cases es with
      | nil => cases z
      | cons e es =>
        injection z with z _
        cases z
  have sl : s ≠ l := fun z => by
    rw [z, hl] at h1
    have h1 := Option.some.inj h1
    injection h1 with h1
    have e : es = ls := (List.map_inj_right (fun x y h => by injection h)).mp h1
    subst e
    cases R with
    | nil => exact hR rfl
    | cons r R =>
      obtain ⟨a, ha, hA⟩ := h2.get (i := 0) (o := nlst r) rfl
      obtain ⟨t, x, hc⟩ := he a (List.mem_of_getElem? ha)
      rw [hA] at hc
      have hc := Option.some.inj hc
      unfold nlst at hc
      injection hc with hc
      cases r with
      | nil => cases hc
      | cons y r =>
        injection hc with hc _
        cases hc
  refine ⟨ls, by rw [upd_ne sl]; exact h1, h2.upd (Pts.notin h2 hl fun u hu z => ?_)⟩
  obtain ⟨r, _, rfl⟩ := List.mem_map.mp hu
  exact nlr r z
/-- the key of masks -/
def tK (m : List Nat) : Key := Sum.inr (shR2 (m.map Mu.bitsL))
def LotL (H : Hp) (lo kn : Addr) (L : List (List Nat)) : Prop := ∃ (es : List Addr) (kvs : List (Key × V)), H lo = some (.lst (es.map V.ref)) ∧ es.length = L.length ∧
  (∀ (i : Nat) (e : Addr) (m : List Nat), es[i]? = some e → L[i]? = some m → ∃ nm r, H e = some (.lst [.str (SX.S nm), .ref r]) ∧ nm.length < L.length ∧ RowsAt H r (m.map Mu.bitsL)) ∧ H kn = some (.dK kvs) ∧ kvs.map Prod.fst = L.map tK
theorem valV_mem : ∀ (kvs : List (Key × V)) (k : Key), (valV kvs k).isSome = true ↔ k ∈ kvs.map Prod.fst
  | [], k => Iff.intro (fun h => absurd (show (none : Option V).isSome = true from h) (by decide)) (fun h => absurd h (List.not_mem_nil))
  | p :: kvs, k => by
    have ih := valV_mem kvs k
    by_cases h : p.1 = k
    · rw [valV_pos h]
      exact ⟨fun _ => by rw [← h]; exact List.mem_cons_self .., fun _ => rfl⟩
    · rw [valV_neg h, ih]
      exact ⟨fun h2 => List.mem_cons_of_mem _ h2, fun z => (List.mem_cons.mp z).resolve_left fun z => h z.symm⟩
theorem tK_mem {n : Nat} {L : List (List Nat)} {m : List Nat} (n1 : 1 ≤ n) (n3 : n ≤ 3) (hL : ∀ x ∈ L, Mu.Rel n x) (hm : Mu.Rel n m) : tK m ∈ L.map tK ↔ m ∈ L := by
  constructor
  · intro h
    obtain ⟨x, hx, e⟩ := List.mem_map.mp h
    have := txt_inj n1 n3 (hL x hx) hm (Sum.inr.inj e)
    rw [← this]
    exact hx
  · exact fun h => List.mem_map_of_mem h
theorem RowsAt.updL {H : Hp} {x s : Addr} {o o' : HO} {R : List (List Nat)} (h : RowsAt H s R) (hx : H x = some o') (h' : ∀ l, o' ≠ .lst l) : RowsAt (L2.upd H x o) s R := by
  obtain ⟨ls, h1, h2⟩ := h
  refine ⟨ls, by rw [upd_ne (ne_of h1 hx (h' _).symm)]; exact h1, h2.upd (Pts.notin h2 hx fun u hu z => ?_)⟩
  obtain ⟨r, _, rfl⟩ := List.mem_map.mp hu
  exact h' _ z.symm
theorem LotL.updL {H : Hp} {x lo kn : Addr} {o o' : HO} {L : List (List Nat)} (h : LotL H lo kn L) (hx : H x = some o') (h' : ∀ l, o' ≠ .lst l) (hn : kn ≠ x) : LotL (L2.upd H x o) lo kn L := by
  obtain ⟨es, kvs, h1, h2, h3, h4, h5⟩ := h
  refine ⟨es, kvs, by rw [upd_ne (ne_of h1 hx (h' _).symm)]; exact h1, h2, fun i e m a b => ?_, by rw [upd_ne hn]; exact h4, h5⟩
  obtain ⟨nm, r, q1, q2, q3⟩ := h3 i e m a b
  exact ⟨nm, r, by rw [upd_ne (ne_of q1 hx (h' _).symm)]; exact q1, q2, q3.updL hx h'⟩
theorem LotL.same {H H' : Hp} {lo kn : Addr} {L : List (List Nat)} (h : LotL H lo kn L) (e : Same H H') : LotL H' lo kn L := by
  obtain ⟨es, kvs, h1, h2, h3, h4, h5⟩ := h
  refine ⟨es, kvs, e _ _ h1, h2, fun i p m a b => ?_, e _ _ h4, h5⟩
  obtain ⟨nm, r, q1, q2, q3⟩ := h3 i p m a b
  exact ⟨nm, r, e _ _ q1, q2, q3.same e⟩
def spLawLot : Sp := fun vs H Q _ => ∃ (d n : Nat) (tb : Nat → List Nat) (G : List (Nat × Addr)), vs = [.ref d, nV n, .int 60] ∧ OwnAt n H d tb G ∧ GOk n tb G ∧
  ∀ H' l xs, Same H H' → H' l = some (.lst xs) → xs.length = (Mu.due n (G.map fun q => tb q.1)).length → Q (.ref l) H'
section
variable {P : Program} {w : World} {K : PySem.W.Frag} {mg : Str → Option Value} {base : Heap}
theorem scLawLot : FnScope ["_law_own_here", "_law_n", "_law_cap", "_law_lot_here", "_law_known", "_law_at", "_law_letter", "_law_rows"] ["_law_own_here", "_law_n", "_law_cap"] (defScope sLawLot) := fnScope_by (by decide +kernel)
theorem c__law_lot (T : Tx K mg) : CalG P w K mg base 5 "_law_lot" spLawLot := by
  obtain ⟨fd, F⟩ := T.d__law_lot
  refine ⟨_, fd, ["_law_own_here", "_law_n", "_law_cap"], fnG F scLawLot (fun vs H Q E h => ?_) (fun cdv A outer s H vs Q E hgd hr h => ?_), T.g__law_lot, F.kp, F.bindsN (fun _ _ _ _ _ _ us hl => match us, hl with | [_, _, _], _ => rfl)⟩
  · obtain ⟨_, _, _, _, rfl, _⟩ := h
    rfl
  · obtain ⟨d, n, tb, G, rfl, hO, gok, k⟩ := h
    have hu := hu_of hr
    refine ⟨_, PSs.nox (pss_cons (ps_set (i := 3) scLawLot.nd rfl (Or.inl rfl) (pe_lst (pa_cons (pe_lst (pa_cons pe_str (pa_cons (pe_c (c__law_same_rows T) hr (by decide) rfl (pa_cons (pv 1) pa_nil)) pa_nil))) pa_nil)))
      (pss_cons (ps_set (i := 4) scLawLot.nd rfl (Or.inl rfl) (pe_disp (pps_cons (pe_callTy (call_strR hgd hr.units) (by rfl) T.z_str (by decide +kernel) (pa_cons (pe_c (c__law_same_rows T) hr (by decide) rfl (pa_cons (pv 1) pa_nil)) pa_nil)) pe_str pps_nil) rfl rfl (by decide) (by decide)))
      (pss_cons (ps_for PassesOwn.never rfl (pi_range1 rfl T.z_range (pa_cons (pe_op op_add (pv 2) pe_int) pa_nil)) (pg_name (i := 5) scLawLot.nd rfl (Or.inl rfl))
        (pss_cons (ps_if (PW.pt (pw_or (pt_cmpR op_ge (pv 5) (pe_callB (call_lenK (K := K) rfl) (by rfl) T.z_len PySem.boot_len (pa_cons (pv 3) pa_nil)) (nomark _)) (pw_or1 (pt_cmpR op_gt (pe_callB (call_lenK (K := K) rfl) (by rfl) T.z_len PySem.boot_len (pa_cons (pv 3) pa_nil)) (pv 2) (nomark _)))))
          (pss_one ps_break)
          pss_nil)
        (pss_one (ps_lock (ps_for PassesOwn.never rfl (pi_keys (pv 0)) (pg_name (i := 6) scLawLot.nd rfl (Or.inl rfl))
          (pss_cons (ps_set (i := 7) scLawLot.nd rfl (Or.inl rfl) (pe_c (c__law_join T) hr (by decide) rfl (pa_cons (pe_ix (ix_listK (K := K) rfl) (pe_ix (ix_listK (K := K) rfl) (pv 3) (pv 5) (fun _ _ => rfl)) pe_int (fun _ _ => rfl)) (pa_cons (pe_dget hu (pv 0) (pv 6) (fun _ _ => rfl)) pa_nil))))
          (pss_one (ps_if (pt_cmp (pc_dnotin hu (pe_callTy (call_strR hgd hr.units) (by rfl) T.z_str (by decide +kernel) (pa_cons (pv 7) pa_nil)) (pv 4)))
            (pss_cons (ps_dput hu (pv 4) (pe_callTy (call_strR hgd hr.units) (by rfl) T.z_str (by decide +kernel) (pa_cons (pv 7) pa_nil)) (pe_op op_add_str (pe_ix (ix_listK (K := K) rfl) (pe_ix (ix_listK (K := K) rfl) (pv 3) (pv 5) (fun _ _ => rfl)) pe_int (fun _ _ => rfl)) (pv 6)) rfl)
            (pss_one (ps_expr (pe_bm PySem.F.plainAttrs_list PySem.F.slot_list_append PySem.F.type_list_append mt_append (pv 3) (pa_cons (pe_lst (pa_cons (pe_op op_add_str (pe_ix (ix_listK (K := K) rfl) (pe_ix (ix_listK (K := K) rfl) (pv 3) (pv 5) (fun _ _ => rfl)) pe_int (fun _ _ => rfl)) (pv 6)) (pa_cons (pv 7) pa_nil))) pa_nil)))))
            pss_nil))))))))
      (pss_one (ps_ret (pv 3)))))), ?_⟩
    have n1 := gok.n1
    have n3 := gok.n3
    generalize hgs : (G.map fun q => tb q.1) = gs at k
    have grel : ∀ g ∈ gs, Mu.Rel n g := fun g hg => by
      rw [← hgs] at hg
      obtain ⟨q, hq, rfl⟩ := List.mem_map.mp hg
      exact gok.rel _ (List.mem_map_of_mem (f := (·.1)) hq)
    have gsl : gs.length ≤ 4 := by rw [← hgs, List.length_map]; exact gok.few
    have rid : Mu.Rel n (Mu.idm n) := Mu.idm_rel n
    have b8 : ∀ {m : List Nat}, Mu.Rel n m → ∀ r ∈ m.map Mu.bitsL, ∀ a ∈ r, a < 8 := fun hm r hr a ha => by
      obtain ⟨x, hx, rfl⟩ := List.mem_map.mp hr
      have := Mu.bitsL_lt (hm.2 x hx) ha
      omega
    refine ⟨_, rfl, n, rfl, n3, fun H1 r0 e1 hr0 hrow0 => ⟨by show 2 ≤ sizeLine; decide, fun en hen => ⟨by show 1 ≤ sizeLine; decide, fun lo hlo => ?_⟩⟩⟩
    have e2 : Same H1 (L2.upd H1 en (.lst [.str (SX.S []), .ref r0])) := Same.upd (Same.refl _) hen
    have e3 : Same H (L2.upd (L2.upd H1 en (.lst [.str (SX.S []), .ref r0])) lo (.lst [.ref en])) := Same.upd (e1.trans e2) hlo
    have enlo : en ≠ lo := ne_of_none (upd_same) hlo
    have lo3 : (L2.upd (L2.upd H1 en (.lst [.str (SX.S []), .ref r0])) lo (.lst [.ref en])) lo = some (.lst [.ref en]) := upd_same
    have en3 : (L2.upd (L2.upd H1 en (.lst [.str (SX.S []), .ref r0])) lo (.lst [.ref en])) en = some (.lst [.str (SX.S []), .ref r0]) := by rw [upd_ne enlo]; exact upd_same
    have row3 : RowsAt (L2.upd (L2.upd H1 en (.lst [.str (SX.S []), .ref r0])) lo (.lst [.ref en])) r0 ((Mu.idm n).map Mu.bitsL) := (hrow0.same e2).same (Same.upd (Same.refl _) hlo)
    have hst : (L2.upd (L2.upd H1 en (.lst [.str (Str.ofString ""), .ref r0])) lo (.lst [.ref en])) = (L2.upd (L2.upd H1 en (.lst [.str (SX.S []), .ref r0])) lo (.lst [.ref en])) := rfl
    have hloH : H lo = none := by
      have h0 : H1 lo = none := by
        have h := hlo
        have h' : L2.upd H1 en (.lst [.str (SX.S []), .ref r0]) lo = none := h
        rw [upd_ne enlo.symm] at h'
        exact h'
      exact e1.free h0
    generalize (L2.upd (L2.upd H1 en (.lst [.str (SX.S []), .ref r0])) lo (.lst [.ref en])) = H3 at e3 lo3 en3 row3 hst
    show gName 3 (V.ref lo) _ (L2.upd (L2.upd H1 en (.lst [.str (Str.ofString ""), .ref r0])) lo (.lst [.ref en])) _
    rw [hst]
    refine fun kn hkn => ?_
    have knlo : kn ≠ lo := fun z => by
      rw [z] at hkn
      have hkn' : H3 lo = none := hkn
      rw [lo3] at hkn'
      cases hkn'
    have hkn0 : H3 kn = none := hkn
    have hknH : H kn = none := e3.free hkn0
    have ekn : Same H3 (L2.upd H3 kn (.dK [])) := Same.upd (Same.refl _) hkn0
    refine ⟨_, rfl, n, rfl, n3, fun H4 l4 e4 hl4 hrow4 => ⟨l4, (Mu.idm n).map Mu.bitsL, rfl, hrow4, b8 rid, Nat.le_of_lt (small1000 (txt_len n1 n3 rid)), e4 _ _ upd_same, [(tK (Mu.idm n), .str (SX.S []))], rfl, by show 1 ≤ 15; decide, ?_⟩⟩
    have e34 : Same H3 H4 := fun b o hb => e4 b o (ekn b o hb)
    have up : ∀ {o : HO}, Same H3 (L2.upd H4 kn o) := fun {o} b u hb => by rw [upd_ne (ne_of_none hb hkn0)]; exact e34 b u hb
    refine ⟨_, rfl, _, _, rfl, rfl, _, rfl, by decide, by decide, ?_⟩
    refine for_it (walk_range (n := 61)) (fun i σ H' => ∃ (L : List (List Nat)) (z5 z6 z7 : Option V), σ = [some (.ref d), some (nV n), some (.int 60), some (.ref lo), some (.ref kn), z5, z6, z7] ∧ Same H H' ∧ LotL H' lo kn L ∧ (∀ m ∈ L, Mu.Rel n m) ∧ L ≠ [] ∧ L.length ≤ 64 ∧ Mu.lotF gs (61 - i) i L = Mu.due n gs)
      ⟨[Mu.idm n], none, none, none, rfl, fun b o hb => up b o (e3 b o hb), ⟨[en], _, up _ _ lo3, rfl, fun i e m x y => ?_, upd_same, rfl⟩, by simpa using rid, by simp, by show 1 ≤ 64; decide, rfl⟩ (fun _ _ _ _ _ => trivial) ?_ ?_
    · cases i with
      | succ i => cases x
      | zero =>
        cases x
        cases y
        exact ⟨[], r0, up _ _ en3, by show 0 < 1; decide, row3.same up⟩
    · rintro i v σ H5 H6 hi ⟨L, z5, z6, z7, rfl, e5, hLL, hrel, hne, h64, hdue⟩ ⟨rfl, rfl⟩
      obtain ⟨es, kvs, hlo5, hesl, hent, hkn5, hkeys⟩ := id hLL
      refine ⟨_, rfl, _, rfl, lo, _, rfl, .inl (SqL.of hlo5), _, _, rfl, rfl, _, rfl, ?_⟩
      rw [List.length_map, hesl]
      have fin : ∀ (Lx : List (List Nat)), Lx = Mu.due n gs → Lx = L → Q (.ref lo) H6 := fun Lx h1 h2 => k H6 lo (es.map V.ref) e5 hlo5 (by rw [List.length_map, hesl, ← h2, h1])
      by_cases h1 : L.length ≤ i
      · rw [decide_eq_true (show ((L.length : Nat) : Int) ≤ 0 + ((i : Nat) : Int) by omega)]
        refine iteT (iteT ⟨_, rfl, fin L ?_ rfl⟩)
        rw [← hdue]
        exact (lotF_end (List.getElem?_eq_none h1)).symm
      rw [decide_eq_false (show ¬ ((L.length : Nat) : Int) ≤ 0 + ((i : Nat) : Int) by omega)]
      refine iteF ⟨_, rfl, lo, _, rfl, .inl (SqL.of hlo5), _, rfl, _, _, rfl, rfl, _, rfl, ?_⟩
      rw [List.length_map, hesl]
      by_cases h2 : 60 < L.length
      · rw [decide_eq_true (show (60 : Int) < ((L.length : Nat) : Int) by omega)]
        refine iteT ⟨_, rfl, fin L ?_ rfl⟩
        rw [← hdue]
        exact (lotF_big _ _ _ _ h2).symm
      rw [decide_eq_false (show ¬ (60 : Int) < ((L.length : Nat) : Int) by omega)]
      refine iteF ?_
      have hil : i < L.length := by omega
      have hLi : L[i]? = some L[i] := List.getElem?_eq_getElem hil
      have hra : Mu.Rel n L[i] := hrel _ (List.getElem_mem hil)
      generalize L[i] = a at hLi hra
      rw [show 61 - i = (61 - (i + 1)) + 1 by omega, lotF_step hLi (by omega)] at hdue
      have hO6 := hO.same e5
      refine ⟨d, .dK (kvF V.ref G), hO6.1, trivial, fun od => ?_⟩
      have dkn : kn ≠ d := fun z => by
        rw [z, hO.1] at hknH
        cases hknH
      have nlF : ∀ {o : Obj} {u : HO} (l : List V), HO.frz o u ≠ .lst l := fun l z => by cases z
      have nlD : ∀ {kvs : List (Key × V)} (l : List V), HO.dK kvs ≠ .lst l := fun l z => by cases z
      refine ⟨_, rfl, d, od, rfl, .inl ⟨kvF V.ref G, upd_same, for_it (walk_keys (kvs := kvF V.ref G)) (fun j σ H' => ∃ (L2' : List (List Nat)) (z6 z7 : Option V), σ = [some (.ref d), some (nV n), some (.int 60), some (.ref lo), some (.ref kn), some (.int (0 + ((i : Nat) : Int))), z6, z7] ∧ SameX d H H' ∧ H' d = some (.frz od (.dK (kvF V.ref G))) ∧ LotL H' lo kn L2' ∧ (∀ m ∈ L2', Mu.Rel n m) ∧ L2'.length ≤ 60 + j ∧ L2' = Mu.stepM (gs.take j) L a)
        ⟨L, z6, z7, rfl, (SameX.of e5).upd, upd_same, hLL.updL hO6.1 nlD dkn, hrel, by omega, rfl⟩ (fun j σ H' _ ⟨L2', z6, z7, h1, h2, h3, _⟩ => h3) ?_ ?_⟩⟩
      · rintro j v σ H7 H8 hj ⟨L2', z6, z7, rfl, e7, d7, hL7, rel7, l7, hL2⟩ ⟨rfl, kk, vv, hkv, rfl⟩
        have hjG : j < G.length := by
          unfold kvF at hj
          rw [List.length_map] at hj
          exact hj
        have hj4 := gok.few
        obtain ⟨cc, r1, hGj, rfl, rfl⟩ : ∃ cc m, G[j]? = some (cc, m) ∧ kk = lK cc ∧ vv = V.ref m := by
          unfold kvF at hkv
          rw [List.getElem?_map, List.getElem?_eq_getElem hjG] at hkv
          cases hkv
          exact ⟨G[j].1, G[j].2, List.getElem?_eq_getElem hjG, rfl, rfl⟩
        have hmG : (cc, r1) ∈ G := List.mem_of_getElem? hGj
        have hlook : G.lookup cc = some r1 := by
          obtain ⟨b, h1, h2⟩ := lookup_some (F := G) (c := cc) (List.mem_map_of_mem (f := (·.1)) hmG)
          rw [h1]
          obtain ⟨q, hq⟩ := List.mem_iff_getElem?.mp h2
          have hqj : q = j := by
            have hq1 : (G.map (·.1))[q]? = some cc := by rw [List.getElem?_map, hq]; rfl
            have hq2 : (G.map (·.1))[j]? = some cc := by rw [List.getElem?_map, hGj]; rfl
            obtain ⟨hql, hq3⟩ := List.getElem?_eq_some_iff.mp hq1
            obtain ⟨hjl, hj3⟩ := List.getElem?_eq_some_iff.mp hq2
            exact (List.getElem_inj (h₀ := hql) (h₁ := hjl) gok.nd).mp (hq3.trans hj3.symm)
          rw [hqj, hGj] at hq
          cases hq
          rfl
        have gsj : gs[j]? = some (tb cc) := by
          rw [← hgs, List.getElem?_map, hGj]
          rfl
        have hrc : Mu.Rel n (tb cc) := grel _ (List.mem_of_getElem? gsj)
        have hrow1 : RowsAt H8 r1 ((tb cc).map Mu.bitsL) := (hO.2 _ hmG).sameX e7 hO.1 odd_dK
        obtain ⟨es2, kvs2, lo7, es2l, ent7, kn7, keys7⟩ := id hL7
        have hL2i : L2'[i]? = some a := by
          obtain ⟨r, hr⟩ := Mu.stepM_pre a (gs.take j) L
          rw [hL2, hr, List.getElem?_append_left hil]
          exact hLi
        have hies : i < es2.length := by
          rw [es2l]
          exact (List.getElem?_eq_some_iff.mp hL2i).1
        obtain ⟨nm, r2, he, hnl, hrow2⟩ := ent7 i es2[i] a (List.getElem?_eq_getElem hies) hL2i
        have hei : es2[i]? = some es2[i] := List.getElem?_eq_getElem hies
        generalize es2[i] = e at he hei
        have gdk : DGet H8 d (lV cc) (some (.ref r1)) := .inl ⟨_, lK cc, .inr ⟨od, d7⟩, rfl, by rw [valV_kvF, hlook]; rfl⟩
        have ati : ∀ {H9 : Hp}, atI (es2.map V.ref) (0 + ((i : Nat) : Int)) = some (.ref e) := by
          intro _
          rw [show (0 : Int) + ((i : Nat) : Int) = ((i : Nat) : Int) by omega]
          exact atI_nat (by rw [List.getElem?_map, hei]; rfl)
        refine ⟨_, rfl, _, rfl, lo, _, _, .ref e, rfl, rfl, SqL.of lo7, ati (H9 := H8), e, _, _, .ref r2, rfl, rfl, SqL.of he, rfl, _, rfl, _, rfl, d, .ref r1, rfl, gdk, r2, r1, n, a, tb cc, rfl, hrow2, hrow1, n3, hra, hrc, fun H9 l9 e9 hn9 hrow9 => ?_⟩
        have rp : Mu.Rel n (Mu.prod a (tb cc)) := Mu.prod_rel hra hrc
        have kn9 := e9 _ _ kn7
        refine ⟨_, rfl, l9, _, rfl, hrow9, b8 rp, Nat.le_of_lt (small1000 (txt_len n1 n3 rp)), _, rfl, kn, _, rfl, DGet.k (k := tK (Mu.prod a (tb cc))) kn9, _, rfl, ?_⟩
        have hin : (valV kvs2 (tK (Mu.prod a (tb cc)))).isSome = true ↔ Mu.prod a (tb cc) ∈ L2' := by
          rw [valV_mem, keys7]
          exact tK_mem n1 n3 rel7 rp
        have e79 : SameX d H H9 := e7.trans (SameX.of e9)
        cases hs : (valV kvs2 (tK (Mu.prod a (tb cc)))).isSome with
        | true =>
          have hM := hin.mp hs
          refine iteF ⟨L2', some (lV cc), some (.ref l9), rfl, e79, e9 _ _ d7, hL7.same e9, rel7, by omega, ?_⟩
          rw [stepM_take gsj, ← hL2]
          exact (if_pos hM).symm
        | false =>
          have hM : Mu.prod a (tb cc) ∉ L2' := fun z => by
            rw [hin.mpr z] at hs
            cases hs
          have hnone : valV kvs2 (tK (Mu.prod a (tb cc))) = none := by
            cases hv : valV kvs2 (tK (Mu.prod a (tb cc))) with
            | none => rfl
            | some y => rw [hv] at hs; cases hs
          have kvl : kvs2.length ≤ 64 := by
            have := congrArg List.length keys7
            rw [List.length_map, List.length_map] at this
            omega
          have nml : (SX.S nm).length + (SX.S [cc]).length ≤ sizeLine := by
            rw [SX.S_len, SX.S_len]
            exact Nat.le_of_lt (small1000 (by show nm.length + 1 ≤ 1000; omega))
          have lo9 := e9 _ _ lo7
          have he9 := e9 _ _ he
          refine iteT ⟨_, rfl, _, rfl, lo, _, _, .ref e, rfl, rfl, SqL.of lo9, ati (H9 := H9), e, _, _, .str (SX.S nm), rfl, rfl, SqL.of he9, rfl, _, rfl, _, _, rfl, rfl, nml, _, rfl, _, rfl, l9, _, rfl, hrow9, b8 rp, Nat.le_of_lt (small1000 (txt_len n1 n3 rp)), kn, _, rfl, DPut.k (k := tK (Mu.prod a (tb cc))) kn9 (small1000 (by omega)), ?_⟩
          rw [show L2.putK kvs2 (tK (Mu.prod a (tb cc))) (V.str (SX.S nm ++ SX.S [cc])) = kvs2 ++ [(tK (Mu.prod a (tb cc)), V.str (SX.S nm ++ SX.S [cc]))] from putK_new _ hnone]
          have up10 : ∀ {b : Addr} {o : HO}, H9 b = some o → (∀ kv, o ≠ .dK kv) → (L2.upd H9 kn (.dK (kvs2 ++ [(tK (Mu.prod a (tb cc)), V.str (SX.S nm ++ SX.S [cc]))]))) b = some o := fun h1 h2 => by rw [upd_ne (ne_of h1 kn9 (h2 _))]; exact h1
          have row10 : ∀ {s : Addr} {R : List (List Nat)}, RowsAt H9 s R → RowsAt (L2.upd H9 kn (.dK (kvs2 ++ [(tK (Mu.prod a (tb cc)), V.str (SX.S nm ++ SX.S [cc]))]))) s R := fun h => h.updL kn9 nlD
          have kn10 : (L2.upd H9 kn (.dK (kvs2 ++ [(tK (Mu.prod a (tb cc)), V.str (SX.S nm ++ SX.S [cc]))]))) kn = some (.dK (kvs2 ++ [(tK (Mu.prod a (tb cc)), V.str (SX.S nm ++ SX.S [cc]))])) := upd_same
          have d10 : (L2.upd H9 kn (.dK (kvs2 ++ [(tK (Mu.prod a (tb cc)), V.str (SX.S nm ++ SX.S [cc]))]))) d = some (.frz od (.dK (kvF V.ref G))) := up10 (e9 _ _ d7) (fun kv z => by cases z)
          have X10 : SameX d H (L2.upd H9 kn (.dK (kvs2 ++ [(tK (Mu.prod a (tb cc)), V.str (SX.S nm ++ SX.S [cc]))]))) := SameX.updn e79 hknH
          generalize L2.upd H9 kn (.dK (kvs2 ++ [(tK (Mu.prod a (tb cc)), V.str (SX.S nm ++ SX.S [cc]))])) = H10 at up10 row10 kn10 d10 X10 ⊢
          have lo10 := up10 lo9 (fun kv z => by cases z)
          have he10 := up10 he9 (fun kv z => by cases z)
          refine ⟨_, rfl, .inl ⟨rfl, _, SqL.of lo10⟩, _, rfl, _, rfl, lo, _, _, .ref e, rfl, rfl, SqL.of lo10, ati (H9 := H10), e, _, _, .str (SX.S nm), rfl, rfl, SqL.of he10, rfl, _, rfl, _, _, rfl, rfl, nml, _, rfl, by show 2 ≤ sizeLine; decide, fun en2 hen2 => ?_⟩
          have e11 : Same H10 (L2.upd H10 en2 (.lst [.str (SX.S nm ++ SX.S [cc]), .ref l9])) := Same.upd (Same.refl _) hen2
          have lo11 := e11 _ _ lo10
          have hes2 : es2 ≠ [] := fun z => by
            rw [z] at hies
            exact Nat.not_lt_zero _ hies
          have hbeg : ∀ p ∈ es2, ∃ t x, (L2.upd H10 en2 (.lst [.str (SX.S nm ++ SX.S [cc]), .ref l9])) p = some (.lst (.str t :: x)) := fun p hp => by
            obtain ⟨q, hq⟩ := List.mem_iff_getElem?.mp hp
            have hql : q < L2'.length := by
              rw [← es2l]
              exact (List.getElem?_eq_some_iff.mp hq).1
            obtain ⟨nm3, r3, w1, _, _⟩ := ent7 q p L2'[q] hq (List.getElem?_eq_getElem hql)
            exact ⟨_, _, e11 _ _ (up10 (e9 _ _ w1) (fun kv z => by cases z))⟩
          have rne : ∀ m : List Nat, Mu.Rel n m → m.map Mu.bitsL ≠ [] := fun m hm z => by
            have := congrArg List.length z
            rw [List.length_map, hm.1] at this
            simp at this
            omega
          have en2lo : en2 ≠ lo := fun z => by
            rw [z, lo10] at hen2
            cases hen2
          refine ⟨lo, _, _, rfl, rfl, lo11, small1000 (by rw [List.length_map, es2l]; omega), L2' ++ [Mu.prod a (tb cc)], some (lV cc), some (.ref l9), rfl, SameX.updn (SameX.updn X10 (X10.free ⟨_, d10⟩ hen2)) hloH, ?_, ⟨es2 ++ [en2], kvs2 ++ [(tK (Mu.prod a (tb cc)), V.str (SX.S nm ++ SX.S [cc]))], by rw [upd_same, List.map_append]; rfl, by rw [List.length_append, List.length_append, es2l]; rfl, fun q p m hq hm => ?_, ?_, ?_⟩, fun m hm => ?_, by rw [List.length_append]; show L2'.length + 1 ≤ 60 + (j + 1); omega, ?_⟩
          · rw [upd_ne (ne_of (e11 _ _ d10) lo11 (fun z => by cases z))]
            exact e11 _ _ d10
          · by_cases hq2 : q < es2.length
            · rw [List.getElem?_append_left hq2] at hq
              rw [List.getElem?_append_left (by rw [← es2l]; exact hq2)] at hm
              obtain ⟨nm3, r3, w1, w2, w3⟩ := ent7 q p m hq hm
              refine ⟨nm3, r3, ?_, by rw [List.length_append]; omega, rows_updS lo11 hes2 hbeg ((row10 (w3.same e9)).same e11) (rne m (rel7 m (List.mem_of_getElem? hm)))⟩
              have w11 := e11 _ _ (up10 (e9 _ _ w1) (fun kv z => by cases z))
              rw [upd_ne (ne_of w11 lo11 (fun z => ?_))]
              · exact w11
              · injection z with z
                cases es2 with
                | nil => cases z
                | cons x y =>
                  injection z with z _
                  cases z
            · have h0 : q - es2.length = 0 := by
                have := (List.getElem?_eq_some_iff.mp hq).1
                rw [List.length_append] at this
                have : q < es2.length + 1 := this
                omega
              rw [List.getElem?_append_right (by omega), h0] at hq
              rw [List.getElem?_append_right (by rw [← es2l]; omega), ← es2l, h0] at hm
              cases hq
              cases hm
              refine ⟨nm ++ [cc], l9, ?_, by rw [List.length_append, List.length_append]; show nm.length + 1 < L2'.length + 1; omega, rows_updS lo11 hes2 hbeg ((row10 hrow9).same e11) (rne _ rp)⟩
              rw [upd_ne en2lo, upd_same, SX.S_cat]
          · rw [upd_ne (ne_of (e11 _ _ kn10) lo11 (fun z => by cases z))]
            exact e11 _ _ kn10
          · rw [List.map_append, List.map_append, keys7]
            rfl
          · rcases List.mem_append.mp hm with h | h
            · exact rel7 m h
            · rw [List.mem_singleton.mp h]
              exact rp
          · rw [stepM_take gsj, ← hL2]
            exact (if_neg hM).symm
      · rintro σ H7 ⟨L2', z6, z7, rfl, e7, d7, hL7, rel7, l7, hL2⟩
        have hlen : (kvF V.ref G).length = gs.length := by
          rw [← hgs]
          unfold kvF
          rw [List.length_map, List.length_map]
        rw [hlen, List.take_length] at hL2
        refine ⟨d7, L2', _, z6, z7, rfl, fun b o hb => ?_, hL7.updL d7 nlF dkn, rel7, ?_, by omega, by rw [hL2]; exact hdue⟩
        · by_cases hbd : b = d
          · rw [hbd] at hb ⊢
            rw [upd_same, ← hO.1, hb]
          · rw [upd_ne hbd]
            exact e7 b o hbd hb
        · intro z
          obtain ⟨r, hr⟩ := Mu.stepM_pre a gs L
          rw [hL2, hr] at z
          exact hne (List.append_eq_nil_iff.mp z).1
    · rintro σ H5 ⟨L, z5, z6, z7, rfl, e5, ⟨es, kvs, hlo5, hesl, hent, hkn5, hkeys⟩, hrel, hne, h64, hdue⟩
      refine ⟨_, rfl, k H5 lo (es.map V.ref) e5 hlo5 ?_⟩
      rw [List.length_map, hesl, ← hdue]
      rfl
end
end Mz
namespace Mz
open PySem PySem.Spec PyProof.Rows L2 He C8
/-- no exception is wanted, none comes -/
theorem passF {X : Cx} : Passes (L2N.CX X.prog X.w) X (fun _ _ _ => False) := fun _ _ _ _ _ _ _ ⟨_, _, _, _, _, _, _, _, _, _, _, _, h⟩ => h.elim
section
variable {P : Program} {w : World} {K : PySem.W.Frag} {mg : Str → Option Value} {base : Heap}
/-- Lot(cast, most=..) -/
theorem mk_Lot (Z0 : Te K mg) (PF : PFile P fileM) : ∃ fd, FnOk P w K mg base (L2N.CX P w) 6 (ma K (ga K "Lot") "__init__") fd ["self", "cast", "most"] (spLotInit K) ∧
    KBn K fd ["self", "cast", "most"] 2 ["most"] (fun us ws => us ++ ws) (fun vs zs => vs ++ zs) := by
  have T := Z0.z.y.t
  obtain ⟨fd0, F0⟩ := T.m_Lot___init__
  obtain ⟨mv, hk⟩ := F0.kbinds0 (ps := ["self", "cast", "most"]) 2 ["most"] [] (fun us mv ws => us ++ ws) (by simp) (fun q hq => absurd hq List.not_mem_nil) (fun r1 _ r2 => r1.append r2)
    (fun D doc pm an cdv ct us mv ws hu hm hw => match us, hu, ws, hw, mv, hm with | [_, _], _, [_], _, [], _ => rfl)
  exact ⟨fd0, f_Lot_init Z0 PF F0, hk⟩
end
end Mz
/-! the end of a list's iterator while an exception is handled -/
namespace PySem
namespace HotL
open HotX
section
variable {prog : Program} {w : World} {A : Around} {E : Value → Shared → Prop} {s : Shared}
theorem next_list_end {it l x1 : Addr} {i : Nat} {items} {Q : Option Value → Shared → Prop} (hot : HotAt A x1 s.heap) (hit : s.heap.IsListIter it l i) (hl : s.heap.IsList l items) (hx : items[i]? = none)
    (hQ : ∀ h', (∀ b o, b ≠ it → s.heap.get? b = some o → h'.get? b = some o) → Q none { s with heap := h' }) : wpAny (model prog w) A (pyNext (.ref it)) Q E s := by
  obtain ⟨o, ho, hc, hd⟩ := id hit
  obtain ⟨ol, hol, _, nl, hdl⟩ := hl
  obtain ⟨hh, o1, vs1, h1, d1, c1⟩ := hot
  have ne1 : x1 ≠ it := fun z => by
    rw [z, ho] at h1
    cases h1
    rw [hd] at d1
    cases d1
    simp at c1
  unfold pyNext; refine wpAny_bind (wpAny_attempt (wpAny_callSpecial?_slot (name := Str.ofString "__next__") hit.typeIs slot_listiter_next (wpAny_call_entry slot_listiter_next hit.typeIs entry_listiter_next ?_ (args_listiter_next _))))
  show wpAny _ _ (field (.ref it) 0 >>= _) _ _ s; refine wpAny_bind (wpAny_field ho hd (x := .ref l) rfl ?_)
  show wpAny _ _ (if (Value.ref l == Value.none) = true then _ else _) _ _ s; rw [if_neg (show ¬ ((Value.ref l == Value.none) = true) from Bool.false_ne_true)]
  show wpAny _ _ (field (.ref it) 1 >>= _) _ _ s; refine wpAny_bind (wpAny_field ho hd (x := .int i 0) rfl ?_)
  show wpAny _ _ (seqItems? (.ref l) >>= _) _ _ s; refine wpAny_bind (wpAny_seqItems hol hdl ?_)
  simp only [Int.toNat_natCast, hx]
  refine wpAny_bind (wpAny_rule (wpAny_bind (wpAny_setField ho hd (by simp) ?_)))
  show wpAny _ _ (newExc (.type "StopIteration") [] >>= _) _ _ _; refine wpAny_bind ?_
  simp only [newExc, newTuple]; refine wpAny_bind (wpAny_newObj_type ?_ (by size_fits))
  refine wpAny_bind (m := firstArgMember _ _) (wpAny_of_eq (a := Value.none) (by first | rfl | (simp only [firstArgMember]; rfl)) ?_); refine wpAny_newObj_type ?_ (by size_fits)
  have g1 : ∀ {f : Obj → Obj}, (s.heap.update it f).get? x1 = some o1 := fun {f} => by rw [Heap.get?_update_other _ _ ne1.symm]; exact h1
  refine raiseNew_hot ⟨hh, o1, vs1, Heap.get?_push_of_some _ (Heap.get?_push_of_some _ g1), d1, c1⟩ (Nat.ne_of_lt (Heap.lt_size (Heap.get?_push_of_some _ g1))) (Heap.get?_push_size _ rfl) rfl (by first | (simp; done) | (simp; omega) | (simp only [Array.size_append]; simp; omega)) ?_
  refine wpAny_bind (wpAny_isInstance (T := "StopIteration") (b := true) ⟨_, Heap.get?_update_self _ (Heap.get?_push_size _ rfl) rfl, rfl⟩ isSubtype_stop ?_)
  refine wpAny_pure (hQ _ fun b u hb hu => ?_)
  have g2 : ∀ {f : Obj → Obj}, (s.heap.update it f).get? b = some u := fun {f} => by rw [Heap.get?_update_other _ _ (Ne.symm hb)]; exact hu
  rw [Heap.get?_update_other _ _ (Nat.ne_of_gt (Heap.lt_size (Heap.get?_push_of_some _ g2)))]
  exact Heap.get?_push_of_some _ (Heap.get?_push_of_some _ g2)
end
end HotL
end PySem
namespace Mz
open PySem PySem.Spec PyProof.Rows L2 L2H
/-- a list's iterator, an exception being handled -/
theorem turn_listH {P : Program} {w : World} {K : PySem.W.Frag} {tg : Expr} (a it : Addr) : TurnH P w K tg (Itl K a) [it] it (fun i h => h.IsListIter it a i) where
  mem := List.mem_singleton.mpr rfl
  obj := (turn_list (P := P) (w := w) (K := K) (tg := tg) a it).obj
  keep := (turn_list (P := P) (w := w) (K := K) (tg := tg) a it).keep
  self := (turn_list (P := P) (w := w) (K := K) (tg := tg) a it).self
  item := by
    intro X hP hw hK hc i pins s σ H E I hf st hg; subst hP hw hK
    obtain ⟨xs, x, hq, hx⟩ := hg; obtain ⟨its, rv, p, hz⟩ := I.list hq
    obtain ⟨u, hu, ru⟩ := rv.get hx
    obtain ⟨f0, f1, f2, f3, f4, f5⟩ := hf it (List.mem_singleton.mpr rfl)
    refine wpAny_pyNext_list_item st p.isList (x := u) (by simpa using hu) fun h' st' sb => ?_
    have I1 : Inv X pins σ H { s with heap := h' } := I.turned (t' := s.toks) (fun b o hb e => (sb.2 b hb).trans e) f0 f1 f3 f4 f5
    obtain ⟨o, e, c, dd⟩ := id st'
    exact ⟨u, rfl, go_of (s := { s with heap := h' }) e c dd (by decide) ⟨x, H, I1, ru, ⟨rfl, fun ys hy => (I.list_inj hy hq).symm ▸ hx⟩, st', fun b hb => (hf b hb).1⟩⟩
  done := by
    intro X hP hw hK hc i pins s σ H E I hf st hg; subst hP hw hK
    obtain ⟨xs, hq, hx⟩ := hg; obtain ⟨its, rv, p, hz⟩ := I.list hq
    obtain ⟨f0, f1, f2, f3, f4, f5⟩ := hf it (List.mem_singleton.mpr rfl)
    have hl := rv.length
    obtain ⟨x1, hot⟩ := hc.at I
    exact PySem.HotL.next_list_end hot st p.isList (by simp; omega) fun h' eb => ⟨rfl, I.turned (t' := s.toks) (fun b o hb e => eb b o hb e) f0 f1 f3 f4 f5⟩
end Mz
namespace Mz
open PySem PySem.Spec PyProof.Rows L2 L2H
/-- a block's context that keeps the pins of the def around it -/
abbrev blkH (X : Cx) (s : Shared) (H : Hp) (scope : Scope) (cenv : Env) (fp : List Addr) : Cx := { X.blk s H scope cenv fp with pn := X.pn }
section
variable {X : Cx} {pins : List (Addr × Obj)} {σ : L2.St} {H : Hp} {s : Shared}
theorem hot_blk (h : HotC X) {s : Shared} {H : Hp} {scope : Scope} {cenv : Env} {fp : List Addr} : HotC (blkH X s H scope cenv fp) := h
theorem start_blkH {scope : Scope} {own : List (Str × Nat)} {fp : List Addr} (I : Inv X pins σ H s) (ok : BlkOk X.N X.env.scope scope own) (hN : X.N.Nodup) (hfp : ∀ b ∈ fp, FpOk X pins H b ∧ b < s.heap.objs.size) :
    Inv (blkH X s H scope (compEnvC scope (cellsFrom (s.heap.objs.size + 1) scope.names (cloFrom X.env.cells scope.names [])) s.heap.objs.size X.env) fp) [] (wipe σ (own.map (·.2))) H
      { s with heap := pushCells (s.heap.push { cls := .type "dict", data := .dict #[] }) scope.names } := by
  have J := block_start I ok hN hfp
  have k := J.ok
  refine ⟨⟨k.mod, k.kind, k.glob, k.blt, k.above, k.inj, k.has, k.cab, k.hd, k.frames, k.stk, k.exf, k.bs, k.bsz, k.noex, k.exfs, k.funs, k.frf⟩, J.os, J.bare, J.base, J.loc, J.cell, J.free, J.freeC, fun p hp => ?_, J.hok, J.len⟩
  rw [List.append_nil] at hp
  obtain ⟨p1, p2, p3, p4, p5⟩ := I.pin p (List.mem_append_left _ hp)
  refine ⟨pushCells_keeps _ _ _ _ (Heap.get?_push_of_some _ p1), p2, fun z => ?_, fun z => ?_, p5⟩
  · have z : p.1 = s.heap.objs.size := z
    exact absurd (Heap.lt_size p1) (by rw [z]; exact Nat.lt_irrefl _)
  · exact (List.mem_cons.mp (I.stkSub p.1 z)).elim p3 p4
end
end Mz
namespace Mz
open PySem PySem.Spec PyProof.Rows L2 L2H
section
variable {X : Cx}
/-- [elt for tg in l if ..] over a list, while an exception is handled -/
theorem pe_lcH {elt tg l : Expr} {ifs : List Expr} {scope : Scope} {own : List (Str × Nat)} {pos : Pos} {tl : TE} {g : TG} {tt : TT} {te : TE} (hc : HotC X) (hN : X.N.Nodup) (hi : PE X l tl) (ok : BlkOk X.N X.env.scope scope own)
    (hg : ∀ (s : Shared) (H : Hp) (C : Addr) (cl : List (Str × Addr)) (fp : List Addr), PG (blkH X s H scope (compEnvC scope cl C X.env) fp) tg g)
    (ht : ∀ (s : Shared) (H : Hp) (C : Addr) (cl : List (Str × Addr)) (fp : List Addr), PTs (blkH X s H scope (compEnvC scope cl C X.env) fp) ifs tt)
    (he : ∀ (s : Shared) (H : Hp) (C : Addr) (cl : List (Str × Addr)) (fp : List Addr), PE (blkH X s H scope (compEnvC scope cl C X.env) fp) elt te) (hs : ∀ x, foldedSetIterable l X.env x = pure x := by intro _; rfl) :
    PE X (.ListComp elt [⟨tg, l, ifs, 0⟩] scope pos) (tLc (iList X.K tl) g tt te (own.map (·.2))) := by
  refine ⟨fun pins s σ H Q I h => ?_⟩
  rw [eval_ListComp]
  have hfree : ∀ y ∈ scope.names, y.2 = .free → ∃ c, X.env.cells.lookup y.1 = some c := fun y hy e => (ok.free y hy e).elim (fun k => I.ok.has _ (.inl k)) fun k => I.ok.has _ (.inr k)
  refine wpAny_comprehension_free rfl hs (closure_ok hfree) ok.kind (fun y hy e => by rw [ok.uniq y hy, e]) (thn (hi.run pins s σ H _ I h) fun xv s1 ⟨x, H2, I1, rx, q1⟩ => ?_)
  obtain ⟨a, ex, ⟨xs, hq⟩, q⟩ := q1
  subst ex
  cases rx
  obtain ⟨its, rv, pl, hz⟩ := I1.list hq
  refine wpAny_pyIter_list pl.isList ?_
  obtain ⟨it, hit⟩ : ∃ it, it = s1.heap.objs.size := ⟨_, rfl⟩
  rw [← hit]
  have I2 : Inv X pins σ H2 { s1 with heap := s1.heap.push { cls := .type "list_iterator", data := .fields #[.ref a, .int 0 0] } } := I1.kept (t' := s1.toks) fun b o e => Heap.get?_push_of_some _ e
  have st2 : (s1.heap.push { cls := .type "list_iterator", data := .fields #[.ref a, .int 0 0] }).IsListIter it a 0 := by rw [hit]; exact ⟨_, Heap.get?_push_size _ rfl, rfl, rfl⟩
  have nit : H2 it = none := by rw [hit]; exact I1.hok.fresh (Nat.le_refl _)
  have f2 : FpOk X pins H2 it := by rw [hit]; exact I1.fpOk (Nat.le_refl _) (I1.hok.fresh (Nat.le_refl _))
  have hsz : it < (s1.heap.push { cls := .type "list_iterator", data := .fields #[.ref a, .int 0 0] }).objs.size := by rw [hit, Heap.size_push]; exact Nat.lt_succ_self _
  generalize hs2 : ({ s1 with heap := s1.heap.push { cls := .type "list_iterator", data := .fields #[.ref a, .int 0 0] } } : Shared) = s2 at I2
  have hh2 : s2.heap = s1.heap.push { cls := .type "list_iterator", data := .fields #[.ref a, .int 0 0] } := by rw [← hs2]
  rw [← hh2] at st2 hsz
  refine wpAny_newObj_type (newEnv_comp ?_) (by show 0 ≤ sizeLine; decide)
  generalize hD : s2.heap.objs.size = D
  have hDn : H2 D = none := I2.hok.fresh (Nat.le_of_eq hD)
  obtain ⟨W, ⟨m0, w0⟩, turn⟩ := q D hDn
  have itD : it ≠ D := by rw [← hD]; exact Nat.ne_of_lt hsz
  -- the new list
  generalize hs3 : ({ s2 with heap := s2.heap.push { cls := .type "list", data := .seq ([] : List Value).toArray } } : Shared) = s3
  have h3 : s3.heap = s2.heap.push { cls := .type "list", data := .seq ([] : List Value).toArray } := by rw [← hs3]
  have I3 : Inv X pins σ (upd H2 D (.lst [])) s3 := by
    rw [← hs3]
    refine I2.laid (t' := s2.toks) (fun b o e => Heap.get?_push_of_some _ e) (Nat.le_of_eq hD) ⟨Nat.zero_le _, [], 0, .nil, ?_⟩
    rw [← hD]
    exact Heap.get?_push_size _ rfl
  have st3 : s3.heap.IsListIter it a 0 := st2.at fun o e => by rw [h3]; exact Heap.get?_push_of_some _ e
  have f3 : FpOk X pins (upd H2 D (.lst [])) it := ⟨by rw [upd_ne itD]; exact nit, f2.2⟩
  have ff3 : ∀ b ∈ [it], FpOk X pins (upd H2 D (.lst [])) b ∧ b < s3.heap.objs.size := fun b hb => by
    rw [List.mem_singleton.mp hb]
    exact ⟨f3, by rw [h3, Heap.size_push]; exact Nat.lt_succ_of_lt hsz⟩
  have I4 := start_blkH I3 ok hN ff3
  have pg := hg s3 (upd H2 D (.lst [])) s3.heap.objs.size (cellsFrom (s3.heap.objs.size + 1) scope.names (cloFrom X.env.cells scope.names [])) [it]
  have pt := ht s3 (upd H2 D (.lst [])) s3.heap.objs.size (cellsFrom (s3.heap.objs.size + 1) scope.names (cloFrom X.env.cells scope.names [])) [it]
  have pe := he s3 (upd H2 D (.lst [])) s3.heap.objs.size (cellsFrom (s3.heap.objs.size + 1) scope.names (cloFrom X.env.cells scope.names [])) [it]
  show codeAny _ _ (.compStart (.ListComp elt [⟨tg, l, ifs, 0⟩] scope pos) 0 (.ref it) (.ref D) (compEnvC scope (cellsFrom (s3.heap.objs.size + 1) scope.names (cloFrom X.env.cells scope.names [])) s3.heap.objs.size X.env)) (compPost (model X.prog X.w) X.A X.xe none (EP X pins σ Q) (.ref D) s3.heap.objs.size) { s3 with heap := pushCells (s3.heap.push { cls := .type "dict", data := .dict #[] }) scope.names }
  generalize hce : compEnvC scope (cellsFrom (s3.heap.objs.size + 1) scope.names (cloFrom X.env.cells scope.names [])) s3.heap.objs.size X.env = ce at I4 pg pt pe ⊢
  have cL : ce.locals = s3.heap.objs.size := by rw [← hce]; rfl
  have f3it := f3.1
  generalize hH3 : upd H2 D (.lst []) = H3 at I3 I4 pg pt pe w0 f3it f3
  generalize hs4 : ({ s3 with heap := pushCells (s3.heap.push { cls := .type "dict", data := .dict #[] }) scope.names } : Shared) = s4 at I4 ⊢
  have st4 : s4.heap.IsListIter it a 0 := st3.at fun o e => by rw [← hs4]; exact pushCells_keeps _ _ _ _ (Heap.get?_push_of_some _ e)
  have T : TurnH X.prog X.w X.K tg (Itl X.K a) [it] it (fun i h => h.IsListIter it a i) := turn_listH a it
  have hcB : HotC (blkH X s3 H3 scope ce [it]) := hc
  have stat : ∀ {σ' : L2.St} {H' : Hp} {s' : Shared}, Inv (blkH X s3 H3 scope ce [it]) [] σ' H' s' → H' it = none → ∀ b ∈ [it], FpOk (blkH X s3 H3 scope ce [it]) [] H' b := fun {σ' H' s'} I' hn b hb => by
    have eb := List.mem_singleton.mp hb
    refine ⟨by rw [eb]; exact hn, (I'.ok.exf b hb).1, I'.ok.exfs b hb, .inl hb, fun x c e => (I'.ok.exf b hb).2 x c e, fun p hp => ?_⟩
    rw [eb]
    exact f3.2.2.2.2.2 p (List.mem_append_left _ (by rw [List.append_nil] at hp; exact hp))
  have loop : codeAny (model X.prog X.w) X.A (.compLoop (.ListComp elt [⟨tg, l, ifs, 0⟩] scope pos) 0 (.ref it) (.ref D) ce) (compPost (model X.prog X.w) X.A X.xe none (EP X pins σ Q) (.ref D) s3.heap.objs.size) s4 := by
    refine compLoop_any (fun n s' => ∃ i H', Inv (blkH X s3 H3 scope ce [it]) [] (wipe σ (own.map (·.2))) H' s' ∧ s'.heap.IsListIter it a i ∧ H' it = none ∧ W i n H') ?_ m0 ⟨0, H3, I4, st4, f3it, w0⟩
    rintro n s5 ⟨i, H5, I5, st5, n5, w5⟩
    rcases turn i n H5 w5 with ⟨stop, qq⟩ | ⟨go, Nx, hNx, step⟩
    · refine thnF (T.done (blkH X s3 H3 scope ce [it]) rfl rfl rfl hcB i [] s5 _ H5 (fun _ _ => False) I5 (stat I5 n5) st5 stop) fun r s6 ⟨hr, I6⟩ => ?_
      subst hr
      have I7 : Inv X pins σ H5 s6 := I3.call' (ch := [it]) I6.os I6.base I6.hok I6.bare fun b hb => by
        rw [List.mem_singleton.mp hb]
        exact ⟨f3.2.2.2.1, f3.2.1, f3.2.2.2.2.1, f3.2.2.2.2.2⟩
      have nC : H5 s3.heap.objs.size = none := cL ▸ (show H5 ce.locals = none from I6.free)
      obtain ⟨m, hn, _⟩ := I6.loc
      have hn : s6.heap.Ns s3.heap.objs.size m := cL ▸ (show s6.heap.Ns ce.locals m from hn)
      obtain ⟨g0, g1, g2, g3, g4, g5⟩ := I3.fpOk (Nat.le_refl _) nC
      exact ⟨m, hn, fun h'' sb => ⟨.ref D, H5, I7.turned (t' := s6.toks) (fun b o hb e => (sb.2 b hb).trans e) g0 g1 g3 g4 g5, rfl, qq⟩⟩
    · refine thnF (T.item (blkH X s3 H3 scope ce [it]) rfl rfl rfl hcB i [] s5 _ H5 (fun _ _ => False) I5 (stat I5 n5) st5 go) fun r s6 ⟨u, hr, h6⟩ => ?_
      subst hr
      refine thnF h6 fun _ s7 ⟨x, H7, I7, r7, y7, st7, n7⟩ => ?_
      have n7it := n7 it (List.mem_singleton.mpr rfl)
      have I7' := I7.pinned (stat I7 n7it) (T.obj _ _ st7)
      refine thnF (pg.run _ s7 _ H7 x u _ I7' r7 (step x H7 y7)) fun _ s8 ⟨σ8, H8, I8, hw8, q8⟩ => thnF (pt.run _ s8 σ8 H8 _ I8 q8) fun b s9 ⟨H9, I9, q9⟩ => ?_
      have fin : ∀ {s' : Shared} {H' : Hp}, Inv (blkH X s3 H3 scope ce [it]) ([] ++ pinsAt [it] s7.heap) σ8 H' s' → Nx H' → ∃ m, m < n ∧ ∃ i H', Inv (blkH X s3 H3 scope ce [it]) [] (wipe σ (own.map (·.2))) H' s' ∧ s'.heap.IsListIter it a i ∧ H' it = none ∧ W i m H' := fun {s' H'} I' nx => by
        obtain ⟨m', hm, w'⟩ := hNx H' nx
        have pin' : ∀ o, s7.heap.get? it = some o → s'.heap.get? it = some o ∧ H' it = none := fun o e =>
          let z := I'.pin (it, o) (List.mem_append_right _ (List.mem_append_right _ (mem_pinsAt (List.mem_singleton.mpr rfl) e)))
          ⟨z.1, z.2.1⟩
        obtain ⟨o, e, _⟩ := id st7
        refine ⟨m', hm, i + 1, H', (I'.unpinned (pins := [])).weak (by rw [← hw8, wipe_length]) (fun j v e => (wipe_some (hw8 ▸ e)).1), st7.at fun o e => (pin' o e).1, (pin' o e).2, w'⟩
      cases b with
      | false =>
        simp only [Bool.false_eq_true, if_false] at q9 ⊢
        exact fin I9 q9
      | true =>
        simp only [if_true] at q9 ⊢
        exact thnF (pe.run _ s9 σ8 H9 _ I9 q9) fun z s10 ⟨yv, H10, I10, r10, acc, hD10, hz10, nx⟩ => app_ok (X := blkH X s3 H3 scope ce [it]) I10 hD10 hz10 r10 fun s11 I11 => fin I11 nx
  exact codeAny_compStart_list loop (T.self X.A 0 _ _ _ st4 loop)
end
end Mz
/-! e.__class__ of an own exception that has its dict -/
namespace PySem.W
open PySem PySem.Spec PySem.Calls PyProof.Rows
section
variable {prog : Program} {w : World} {A : Around} {E : Value → Shared → Prop} {s : Shared} {K : Frag} {x D : Addr} {ox : Obj}
theorem find_cls {C : Addr} {od : Option Obj} {a g : Value} (hc : (clsIn K C).isSome = true) (ha : findIn K (.ref C) "__class__" = some (some a)) (hg : specialIn K a "__get__" = some (some g)) (ht : takesIn K a = some true) : findObj K C od "__class__" = some (.bind g a) := by
  obtain ⟨cd, hc⟩ := Option.isSome_iff_exists.mp hc
  unfold findObj; rw [hc, Option.bind_some, ha, Option.bind_some]; simp [hg, ht]
theorem excD_class {od : Option Obj} {Q : Option Value → Shared → Prop} (hga : findIn K (.ref D) "__getattribute__" = some (some (.builtin "BaseException.__getattribute__"))) (hgt : findIn K (.ref D) "__getattr__" = some none)
    (hsub : subIn K (.ref D) (.type "BaseException") = some true) (hdct : hasDictIn K D = true) (ha : findIn K (.ref D) "__class__" = some (some (.builtin "object.__class__"))) (hn : specialIn K (.builtin "object.__class__") "__get__" = some (some (.builtin "getset_descriptor.__get__")))
    (htk : takesIn K (.builtin "object.__class__") = some true) (hm : mroIn K D (.type "object") = some true) (X : K.In s.heap) (I : InstAt s.heap x ox D od) (h : Q (some (.ref D)) { s with toks := s.toks + 1 }) : wpAny (model prog w) A (getAttr? (.ref x) "__class__") Q E s := by
  have hf : findObj K D od "__class__" = some (.bind (.builtin "getset_descriptor.__get__") (.builtin "object.__class__")) := find_cls (by obtain ⟨cd, hc, _⟩ := any_some hdct; rw [hc]; rfl) ha hn htk
  obtain ⟨hp, g, d, t, os⟩ := s
  have L0 := I.type (M := model prog w)
  have L1 := looks_findIn (M := model prog w) X hga
  have L2 := looks_findIn (M := model prog w) X hgt
  have L3 := looks_find (M := model prog w) X I hf
  have sub : Looks (model prog w) hp (isInstance (.ref x) (.type "BaseException")) true := L0.andThen (looks_subIn X hsub)
  have e2 : (Value.builtin "BaseException.__getattribute__" == Value.builtin "object.__getattribute__") = false := by decide +kernel
  have e1 : (onTheHeap (Value.ref D) && Value.builtin "BaseException.__getattribute__" == Value.builtin "object.__getattribute__") = false := by rw [e2]; rfl
  unfold getAttr? getAttrBy? getAttrBy; refine wpAny_bind (wpAny_mkText (wpAny_bind (wpAny_attempt (wpAny_holding (wpAny_bind (L0.at (wpAny_bind (L1.at ?_))))))))
  show wpAny _ _ (if (onTheHeap (Value.ref D) && Value.builtin "BaseException.__getattribute__" == Value.builtin "object.__getattribute__") = true then _ else _) _ _ _; rw [e1, if_neg Bool.false_ne_true]
  unfold getAttrByItsOwn hookBefore; refine wpAny_bind ?_
  rw [if_pos (show onTheHeap (Value.ref D) = true from rfl)]; refine L2.at (wpAny_bind (wpAny_attempt (wpAny_holding ?_)))
  unfold callGetattribute; rw [show (false && onTheHeap (Value.builtin "BaseException.__getattribute__")) = false from rfl, if_neg Bool.false_ne_true]
  unfold boundAndCalled; rw [PySem.F.excAttr_ValueError.ga.bind (.ref x)]
  refine wpAny_bind (wpAny_pure ?_); show wpAny _ _ (call (.builtin "BaseException.__getattribute__") [.ref x, .str "__class__" t]) _ _ _
  refine wpAny_call (codeAny_call_builtin PySem.F.excAttr_ValueError.ga.plain PySem.F.entry_bexc_ga (@check_slot (model prog w) _ _ ⟨hp, g, d, t + 1, os⟩ "BaseException.__getattribute__" "BaseException" "__getattribute__" (.ref x) [.str "__class__" t] [] _ (by decide +kernel) (by decide +kernel) sub (PySem.F.args_bexc_ga (.ref x) (.str "__class__" t)) ?_))
  unfold Builtin.«object.__getattribute__»; refine wpAny_bind (wpAny_of_eq (a := ((Value.ref x : Value), [Value.str "__class__" t])) (by first | rfl | (simp only [slotArgs]; rfl)) (wpAny_bind (wpAny_pure (wpAny_bind (L0.at (wpAny_bind (L3.at ?_)))))))
  show wpAny _ _ (holding [Value.builtin "object.__class__"] (call (.builtin "getset_descriptor.__get__") [.builtin "object.__class__", .ref x, .ref D]) >>= ret) _ _ _
  refine wpAny_bind (wpAny_holding (wpAny_call (class_get (s := ⟨hp, g, d, t + 1, os⟩) (ox := ox) (od := od) X I hm (wpAny_pure ?_))))
  show wpAny _ _ (handedOut (.ref D)) _ _ _; rw [handedOut_of (v := .ref D) rfl]
  first
    | exact wpAny_pure (wpAny_pure h)
    | exact wpAny_pure h
    | exact wpAny_pure (wpAny_bind (wpAny_pure (wpAny_pure h)))
theorem kitx_excD {od : Option Obj} (hga : findIn K (.ref D) "__getattribute__" = some (some (.builtin "BaseException.__getattribute__"))) (hgt : findIn K (.ref D) "__getattr__" = some none) (hsub : subIn K (.ref D) (.type "BaseException") = some true)
    (hdct : hasDictIn K D = true) (ha : findIn K (.ref D) "__class__" = some (some (.builtin "object.__class__"))) (hn : specialIn K (.builtin "object.__class__") "__get__" = some (some (.builtin "getset_descriptor.__get__"))) (htk : takesIn K (.builtin "object.__class__") = some true)
    (hm : mroIn K D (.type "object") = some true) : KitX K (.ref x) (.ref D) (fun h => InstAt h x ox D od) where
  ty := fun _ _ _ I => I.type
  it := fun _ _ X _ => by
    obtain ⟨cdD, hcD, _⟩ := any_some hdct
    unfold clsIn at hcD; split at hcD
    · rename_i c' d' cd' sl' ho
      intro A' Q' E' s' k q; unfold isType loadHead
      exact wpAny_bind (wpAny_loadPart (k _ _ (X _ _ ho)) (wpAny_pure q))
    · cases hcD
  ne := fun h tp dd its n sl X htp => by
    obtain ⟨cdD, hcD, _⟩ := any_some hdct
    refine Bool.eq_false_iff.mpr fun q => ?_
    obtain rfl : D = tp := Value.ref.inj (beq_iff_eq.mp q)
    unfold clsIn at hcD; split at hcD
    · rename_i c' d' cd' sl' ho
      cases (X _ _ ho).symm.trans htp
    · cases hcD
  ca := fun X I k => excD_class hga hgt hsub hdct ha hn htk hm X I k
end
end PySem.W
/-! a def that is handed the exception that is being handled -/
namespace Mz
open PySem PySem.Spec PyProof.Rows L2 L2H He
/-- the promise: p is the handled exception as it stands -/
structure FnS (P : Program) (w : World) (K : PySem.W.Frag) (mg : Str → Option Value) (base : Heap) (CX : CXT) (k : Nat) (f : Addr) (fd : FuncData) (ps : List Str) (sp : Addr → Value → Option Addr → Sp) : Prop where
  len : ∀ a cls d vs H Q E, sp a cls d vs H Q E → vs.length = ps.length
  go : ∀ (A : Around) (outer : List Env) (s : Shared) (H : Hp) (args : Args) (us : List Value) (vs : List V) (Q : VK) (E : XK) (p : Addr × Obj) (cls : Value) (d : Option Addr), Zc cls d p.2 → RoomH k A → Hot1 A p → PinOk outer H s p → Env0 P w K mg base A outer s H → BindsTo s fd args (ps.zip us) → Vals vs us → sp p.1 cls d vs H Q E →
    codeAny (model P w) A (.call (.ref f) args) (CR CX outer P w H s Q E) s
section
variable {P : Program} {w : World} {K : PySem.W.Frag} {mg : Str → Option Value} {base : Heap}
theorem fnS {CX : CXT} {x : Str} {st : Stmt} {f : Addr} {fd : FuncData} {N ps : List Str} {k : Nat} {sp : Addr → Value → Option Addr → Sp} (F : FunD K x x (defArgs st) (defBody st) (defScope st) [] [] f fd) (S : FnScope N ps (defScope st)) (len : ∀ a cls d vs H Q E, sp a cls d vs H Q E → vs.length = ps.length)
    (hbody : ∀ (cdv : Value) (A : Around) (outer : List Env) (s : Shared) (H : Hp) (vs : List V) (Q : VK) (E : XK) (p : Addr × Obj) (cls : Value) (d : Option Addr), Zc cls d p.2 → Hot1 A p → RoomH k (A.deeper (envOfC x (defScope st) s.heap.objs.size f cdv)) → sp p.1 cls d vs H Q E →
      ∃ t, PSs (cxH CX P w K mg base N x (defScope st) f cdv A outer s H E p) (defBody st) t ∧ t { nx := fun _ H' => Q .non H', rt := Q } (L2.start N vs) H) : FnS P w K mg base CX (k + 1) f fd ps sp := by
  refine ⟨len, fun A outer s H args us vs Q E p cls d hz hr hot hpin e0 hb r hsp => ?_⟩
  obtain ⟨oc, od, dV, kV, doc, pm, an, cdv, ct, osl, rfl, lk, hcd, _, _⟩ := F.ex
  have hl := len _ _ _ _ _ _ _ hsp
  have KX : K.In s.heap := e0.mod.kin.keeps fun b o e => (e0.bs b o e).1
  have lim : s.heap.NoLimit := e0.mod.nolimit.keeps fun b o e => (e0.bs b o e).1
  have hkind : ∀ y ∈ ps.zip us, (defScope st).names.lookup y.1 = some .local ∨ ((defScope st).names.lookup y.1 = some .cell ∧ ((cellsFrom (s.heap.objs.size + 1) (defScope st).names []).lookup y.1).isSome = true) := fun ⟨n, v⟩ hy =>
    (S.par n (List.of_mem_zip hy).1).imp id fun q => ⟨q, PySem.W.cellsFrom_some _ _ _ (.inl q)⟩
  refine codeAny_call_function hr.depth (KX _ _ lk) rfl S.co S.gen rfl (PySem.W.codeRec_of KX hcd) (hb _ _ _ _ (wpAny_newFunctionEnv_cells S.kind hkind fun env he s1 z1 => ?_))
  subst he; refine ⟨lim.keeps z1.toInCall.keep, codeAny_func ?_⟩
  obtain ⟨t, ht, hq⟩ := hbody cdv A outer s H vs Q E p cls d hz hot (hr.deeper _) hsp
  have I : Inv (cxH CX P w K mg base N x (defScope st) f cdv A outer s H E p) [] (L2.start N vs) H s1 := inv_startH S hpin e0 hl r z1
  refine wpAny_mono (ht.run [] s1 (L2.start N vs) H _ I hq) (fun fl s' hs => ?_) fun e s' hs => hs
  have fin : ∀ {σ' : L2.St} {H' : Hp} {v : V} {u : Value}, Inv (cxH CX P w K mg base N x (defScope st) f cdv A outer s H E p) [] σ' H' s' → L2.RelV v u → Q v H' → CE outer P w H s Q u s' :=
    fun {σ' H' v u} J rv q => ⟨v, H', J.os, J.bare, J.base, J.hok, rv, q⟩
  cases fl with
  | ret u => obtain ⟨v, σ', H', J, rv, q⟩ := hs; exact fin J rv q
  | next => obtain ⟨σ', H', J, q⟩ := hs; exact fin (v := V.non) (u := Value.none) J rfl q
  | brk => obtain ⟨_, _, _, q⟩ := hs; exact False.elim q
  | cont => obtain ⟨_, _, _, q⟩ := hs; exact False.elim q
end
section
variable {X : Cx} {CX : CXT} {k : Nat} {f : Addr} {fd : FuncData} {ps : List Str} {sp : Addr → Value → Option Addr → Sp} {x : Str} {q pos : Pos} {e : Expr} {es : List Expr} {t : TA}
theorem pe_callS {a : Addr} {oe : Obj} {cls : Value} {d : Option Addr} (hz : Zc cls d oe) (F : FnS X.prog X.w X.K X.mg X.base C8.CX0 k f fd ps sp) (hr : RoomH k X.A) (hot : Hot1 X.A (a, oe)) (hp : (a, oe) ∈ X.pn) (hg : Gl X x) (hm : X.mg x = some (.ref f)) (hk : PySem.W.keepIn X.K (.ref f) = true) (hb : L2.Binds X.K fd ps [])
    (ha : PA X (e :: es) t) (hdb : (x == ("__debug__" : Str)) = false := by decide) (he : starEach (e :: es) X.env = (false, eval e X.env) :: starEach es X.env := by rfl) (hpl : (backTo pos (starEach es X.env)).any (·.1) = false := by rfl) :
    PE X (.Call (.Name x q) (e :: es) [] pos) (tCall (sp a cls d) [] C8.E0 t) := by
  refine ⟨fun pins s σ H Q I h => ?_⟩
  refine wpAny_Call_Name_kw (ld_glob I hg hm ?_ hdb)
  refine PySem.W.callWith_K (h₀ := X.base) I.ok.mod.kin hk (thn (ha.run pos pins s σ H _ I h) fun us s1 ⟨vs, H1, I1, r, z⟩ => ⟨I1.kIn, ?_⟩) he hpl
  have z : sp a cls d vs H1 Q C8.E0 := by rw [← List.append_nil vs]; exact z
  have hl : (us ++ []).length = ps.length := by rw [List.append_nil, ← r.length]; exact F.len _ _ _ _ _ _ _ z
  have hb1 := hb s1 us I1.kIn hl
  rw [List.append_nil] at hb1
  obtain ⟨p1, p2, p3, p4, p5⟩ := I1.pin (a, oe) (List.mem_append_left _ hp)
  have hpin : PinOk X.stack H1 s1 (a, oe) := ⟨p1, p2, fun hmm => (List.mem_cons.mp (I1.stkSub a hmm)).elim p3 p4, p5⟩
  refine wpAny_call (codeAny_mono (F.go X.A X.stack s1 H1 ⟨us, []⟩ us vs Q C8.E0 (a, oe) cls d hz hr hot hpin I1.env0 hb1 r z) fun r s' hq => ?_)
  cases r with
  | error e => exact False.elim hq
  | ok fl =>
    cases fl with
    | ret u => exact I1.after hq
    | next => exact False.elim hq
    | brk => exact False.elim hq
    | cont => exact False.elim hq
end
end Mz
/-! isinstance of the handled exception that has its dict -/
namespace Mz
open PySem PySem.Spec PyProof.Rows L2 L2H He
def rIsP (K : PySem.W.Frag) (D a d : Addr) : List V → Hp → VK → Prop := fun xs H Q => ∃ (c : V) (cv : Value) (b : Bool) (fs : List (Str × V)), xs = [.ref a, c] ∧ H d = some (.xd fs) ∧ (∀ u, RelV c u → u = cv) ∧ PySem.W.kitOne K (.ref D) cv = some b ∧ Q (.bl b) H
theorem call_isP {X : Cx} {p : Addr × Obj} {D d : Addr} (C : ExcC X.K D) (hp : p ∈ X.pn) (hz : Zc (.ref D) (some d) p.2) (hf : ∃ vs, p.2.data = .fields vs) : CallR X (.builtin "isinstance") (rIsP X.K D p.1 d) := by
  intro pins s σ H xs us Q I r h
  obtain ⟨c, cv, b, fs, rfl, hd, hcv, e, q⟩ := h
  cases r with
  | cons rx rr =>
    cases rr with
    | cons rt rr =>
      cases rr
      cases rx
      have ec := hcv _ rt
      subst ec
      obtain ⟨hget, _⟩ := I.pin p (List.mem_append_left _ hp)
      obtain ⟨vs, hv⟩ := hf
      have hx : ObjOk X.prog X.w H s.heap d (.xd fs) := I.hok d _ hd
      obtain ⟨mA, hns, hr⟩ := hx
      obtain ⟨od, ho, hl⟩ := lookIn_ns hns
      have J : PySem.W.InstAt s.heap p.1 p.2 D (some od) := ⟨hget, hz.1, by unfold PySem.W.notCls; rw [hv] <;> rfl, by rw [hz.2]; exact ho⟩
      exact PySem.W.kia_one (PySem.W.kitx_excD C.hg C.hk C.hs C.hd C.ha C.hn C.ht C.hm) I.kIn J e (fun z => nomatch z) fun tk => ⟨.bl b, H, I.kept (t' := tk) fun _ _ z => z, rfl, q⟩
end Mz
namespace Mz
open PySem PySem.Spec PyProof.Rows L2 L2H He C8
/-- facts of the one exception that is caught -/
structure Th (K : PySem.W.Frag) (mg : Str → Option Value) : Prop where
  e : Te K mg
  xc : ExcC K (ga K "TooMany")
  xf : XfC K (ga K "TooMany")
  xm : PySem.W.exmOne K (.ref (ga K "TooMany")) (.ref (ga K "TooMany")) = some true
  no_BadSize : PySem.W.kitOne K (.ref (ga K "TooMany")) (.ref (ga K "BadSize")) = some false
  no_BadTable : PySem.W.kitOne K (.ref (ga K "TooMany")) (.ref (ga K "BadTable")) = some false
  no_UnknownWord : PySem.W.kitOne K (.ref (ga K "TooMany")) (.ref (ga K "UnknownWord")) = some false
  no_SizeMismatch : PySem.W.kitOne K (.ref (ga K "TooMany")) (.ref (ga K "SizeMismatch")) = some false
  no_BadCount : PySem.W.kitOne K (.ref (ga K "TooMany")) (.ref (ga K "BadCount")) = some false
  no_BadPerson : PySem.W.kitOne K (.ref (ga K "TooMany")) (.ref (ga K "BadPerson")) = some false
  no_BadLetter : PySem.W.kitOne K (.ref (ga K "TooMany")) (.ref (ga K "BadLetter")) = some false
  no_UnknownPerson : PySem.W.kitOne K (.ref (ga K "TooMany")) (.ref (ga K "UnknownPerson")) = some false
  no_BadPattern : PySem.W.kitOne K (.ref (ga K "TooMany")) (.ref (ga K "BadPattern")) = some false
  no_SameWord : PySem.W.kitOne K (.ref (ga K "TooMany")) (.ref (ga K "SameWord")) = some false
  no_UnknownClue : PySem.W.kitOne K (.ref (ga K "TooMany")) (.ref (ga K "UnknownClue")) = some false
  no_BadPlace : PySem.W.kitOne K (.ref (ga K "TooMany")) (.ref (ga K "BadPlace")) = some false
  no_TooLong : PySem.W.kitOne K (.ref (ga K "TooMany")) (.ref (ga K "TooLong")) = some false
  no_Melted : PySem.W.kitOne K (.ref (ga K "TooMany")) (.ref (ga K "Melted")) = some false
  no_NothingToUndo : PySem.W.kitOne K (.ref (ga K "TooMany")) (.ref (ga K "NothingToUndo")) = some false
  no_NothingToRedo : PySem.W.kitOne K (.ref (ga K "TooMany")) (.ref (ga K "NothingToRedo")) = some false
  no_Refused : PySem.W.kitOne K (.ref (ga K "TooMany")) (.ref (ga K "Refused")) = some false
  no_BadLine : PySem.W.kitOne K (.ref (ga K "TooMany")) (.ref (ga K "BadLine")) = some false
  ye_TooMany : PySem.W.kitOne K (.ref (ga K "TooMany")) (.ref (ga K "TooMany")) = some true
  ye_MurmurError : PySem.W.kitOne K (.ref (ga K "TooMany")) (.ref (ga K "MurmurError")) = some true
  ye_ValueError : PySem.W.kitOne K (.ref (ga K "TooMany")) (.type "ValueError") = some true
def spLawSingle (K : PySem.W.Frag) : Addr → Value → Option Addr → Sp := fun a cls d vs H Q _ => vs = [.ref a] ∧ cls = .ref (ga K "TooMany") ∧ ∃ (dd : Addr) (fs : List (Str × V)), d = some dd ∧ H dd = some (.xd fs) ∧ ∀ H', Same H H' → Q (.bl true) H'
theorem scLawSingle : FnScope ["_law_e", "_law_kinds", "_law_kind"] ["_law_e"] (defScope sLawSingle) := fnScope_by (by decide +kernel)
theorem blsq {bs : List Bool} : (bs.map V.bl).length = bs.length := List.length_map ..
section
variable {P : Program} {w : World} {K : PySem.W.Frag} {mg : Str → Option Value} {base : Heap}
theorem c__law_single (Z : Th K mg) : ∃ fd, FnS P w K mg base C8.CX0 2 (ga K "_law_single") fd ["_law_e"] (spLawSingle K) ∧ L2.Binds K fd ["_law_e"] [] := by
  have T := Z.e.z.y.t
  obtain ⟨fd, F⟩ := T.d__law_single
  refine ⟨fd, fnS F scLawSingle (fun a cls d vs H Q E h => ?_) (fun cdv A outer s H vs Q E p cls od hz hot hr h => ?_), F.bindsN fun _ _ _ _ _ _ us hl => match us, hl with | [_], _ => rfl⟩
  · obtain ⟨rfl, _⟩ := h
    rfl
  · obtain ⟨rfl, rfl, d, fs, rfl, hd, k⟩ := h
    have hcx : HotC (cxH C8.CX0 P w K mg base ["_law_e", "_law_kinds", "_law_kind"] "_law_single" (defScope sLawSingle) (ga K "_law_single") cdv A outer s H E p) := ⟨p, hot, List.mem_singleton.mpr rfl⟩
    have hf : ∃ vs, p.2.data = .fields vs := hot.2.imp fun vs h => h.1
    refine ⟨_, (pss_cons (ps_set (i := 1) scLawSingle.nd rfl (Or.inl rfl) (pe_lst (pa_cons (pe_callB (call_isP Z.xc (List.mem_singleton.mpr rfl) hz hf) (by rfl) T.z_isinstance (by decide +kernel) (pa_cons (pv 0) (pa_cons (pe_glob (v := V.ref (ga K "BadSize")) rfl T.g_BadSize rfl) pa_nil))) (pa_cons (pe_callB (call_isP Z.xc (List.mem_singleton.mpr rfl) hz hf) (by rfl) T.z_isinstance (by decide +kernel) (pa_cons (pv 0) (pa_cons (pe_glob (v := V.ref (ga K "BadTable")) rfl T.g_BadTable rfl) pa_nil))) (pa_cons (pe_callB (call_isP Z.xc (List.mem_singleton.mpr rfl) hz hf) (by rfl) T.z_isinstance (by decide +kernel) (pa_cons (pv 0) (pa_cons (pe_glob (v := V.ref (ga K "UnknownWord")) rfl T.g_UnknownWord rfl) pa_nil))) (pa_cons (pe_callB (call_isP Z.xc (List.mem_singleton.mpr rfl) hz hf) (by rfl) T.z_isinstance (by decide +kernel) (pa_cons (pv 0) (pa_cons (pe_glob (v := V.ref (ga K "SizeMismatch")) rfl T.g_SizeMismatch rfl) pa_nil))) pa_nil))))))
      (pss_cons (ps_set (i := 1) scLawSingle.nd rfl (Or.inl rfl) (pe_op op_cat (pv 1) (pe_lst (pa_cons (pe_callB (call_isP Z.xc (List.mem_singleton.mpr rfl) hz hf) (by rfl) T.z_isinstance (by decide +kernel) (pa_cons (pv 0) (pa_cons (pe_glob (v := V.ref (ga K "BadCount")) rfl T.g_BadCount rfl) pa_nil))) (pa_cons (pe_callB (call_isP Z.xc (List.mem_singleton.mpr rfl) hz hf) (by rfl) T.z_isinstance (by decide +kernel) (pa_cons (pv 0) (pa_cons (pe_glob (v := V.ref (ga K "BadPerson")) rfl T.g_BadPerson rfl) pa_nil))) (pa_cons (pe_callB (call_isP Z.xc (List.mem_singleton.mpr rfl) hz hf) (by rfl) T.z_isinstance (by decide +kernel) (pa_cons (pv 0) (pa_cons (pe_glob (v := V.ref (ga K "BadLetter")) rfl T.g_BadLetter rfl) pa_nil))) pa_nil))))))
      (pss_cons (ps_set (i := 1) scLawSingle.nd rfl (Or.inl rfl) (pe_op op_cat (pv 1) (pe_lst (pa_cons (pe_callB (call_isP Z.xc (List.mem_singleton.mpr rfl) hz hf) (by rfl) T.z_isinstance (by decide +kernel) (pa_cons (pv 0) (pa_cons (pe_glob (v := V.ref (ga K "UnknownPerson")) rfl T.g_UnknownPerson rfl) pa_nil))) (pa_cons (pe_callB (call_isP Z.xc (List.mem_singleton.mpr rfl) hz hf) (by rfl) T.z_isinstance (by decide +kernel) (pa_cons (pv 0) (pa_cons (pe_glob (v := V.ref (ga K "TooMany")) rfl T.g_TooMany rfl) pa_nil))) (pa_cons (pe_callB (call_isP Z.xc (List.mem_singleton.mpr rfl) hz hf) (by rfl) T.z_isinstance (by decide +kernel) (pa_cons (pv 0) (pa_cons (pe_glob (v := V.ref (ga K "BadPattern")) rfl T.g_BadPattern rfl) pa_nil))) pa_nil))))))
      (pss_cons (ps_set (i := 1) scLawSingle.nd rfl (Or.inl rfl) (pe_op op_cat (pv 1) (pe_lst (pa_cons (pe_callB (call_isP Z.xc (List.mem_singleton.mpr rfl) hz hf) (by rfl) T.z_isinstance (by decide +kernel) (pa_cons (pv 0) (pa_cons (pe_glob (v := V.ref (ga K "SameWord")) rfl T.g_SameWord rfl) pa_nil))) (pa_cons (pe_callB (call_isP Z.xc (List.mem_singleton.mpr rfl) hz hf) (by rfl) T.z_isinstance (by decide +kernel) (pa_cons (pv 0) (pa_cons (pe_glob (v := V.ref (ga K "UnknownClue")) rfl T.g_UnknownClue rfl) pa_nil))) (pa_cons (pe_callB (call_isP Z.xc (List.mem_singleton.mpr rfl) hz hf) (by rfl) T.z_isinstance (by decide +kernel) (pa_cons (pv 0) (pa_cons (pe_glob (v := V.ref (ga K "BadPlace")) rfl T.g_BadPlace rfl) pa_nil))) pa_nil))))))
      (pss_cons (ps_set (i := 1) scLawSingle.nd rfl (Or.inl rfl) (pe_op op_cat (pv 1) (pe_lst (pa_cons (pe_callB (call_isP Z.xc (List.mem_singleton.mpr rfl) hz hf) (by rfl) T.z_isinstance (by decide +kernel) (pa_cons (pv 0) (pa_cons (pe_glob (v := V.ref (ga K "TooLong")) rfl T.g_TooLong rfl) pa_nil))) (pa_cons (pe_callB (call_isP Z.xc (List.mem_singleton.mpr rfl) hz hf) (by rfl) T.z_isinstance (by decide +kernel) (pa_cons (pv 0) (pa_cons (pe_glob (v := V.ref (ga K "Melted")) rfl T.g_Melted rfl) pa_nil))) (pa_cons (pe_callB (call_isP Z.xc (List.mem_singleton.mpr rfl) hz hf) (by rfl) T.z_isinstance (by decide +kernel) (pa_cons (pv 0) (pa_cons (pe_glob (v := V.ref (ga K "NothingToUndo")) rfl T.g_NothingToUndo rfl) pa_nil))) pa_nil))))))
      (pss_cons (ps_set (i := 1) scLawSingle.nd rfl (Or.inl rfl) (pe_op op_cat (pv 1) (pe_lst (pa_cons (pe_callB (call_isP Z.xc (List.mem_singleton.mpr rfl) hz hf) (by rfl) T.z_isinstance (by decide +kernel) (pa_cons (pv 0) (pa_cons (pe_glob (v := V.ref (ga K "NothingToRedo")) rfl T.g_NothingToRedo rfl) pa_nil))) (pa_cons (pe_callB (call_isP Z.xc (List.mem_singleton.mpr rfl) hz hf) (by rfl) T.z_isinstance (by decide +kernel) (pa_cons (pv 0) (pa_cons (pe_glob (v := V.ref (ga K "Refused")) rfl T.g_Refused rfl) pa_nil))) (pa_cons (pe_callB (call_isP Z.xc (List.mem_singleton.mpr rfl) hz hf) (by rfl) T.z_isinstance (by decide +kernel) (pa_cons (pv 0) (pa_cons (pe_glob (v := V.ref (ga K "BadLine")) rfl T.g_BadLine rfl) pa_nil))) pa_nil))))))
      (pss_one (ps_ret (pe_and (pe_callB (call_isP Z.xc (List.mem_singleton.mpr rfl) hz hf) (by rfl) T.z_isinstance (by decide +kernel) (pa_cons (pv 0) (pa_cons (pe_glob (v := V.ref (ga K "MurmurError")) rfl T.g_MurmurError rfl) pa_nil))) (pe_and (pe_callB (call_isP Z.xc (List.mem_singleton.mpr rfl) hz hf) (by rfl) T.z_isinstance (by decide +kernel) (pa_cons (pv 0) (pa_cons (pe_bltn (v := V.ty "ValueError") (by rfl) T.z_ValueError (by decide +kernel) rfl) pa_nil))) (pe_one (pe_cmpR op_eq (pe_callB (call_lenK (K := K) rfl) (by rfl) T.z_len PySem.boot_len (pa_cons (pe_lcH (own := [("_law_kind", 2)]) (g := gName 2) hcx scLawSingle.nd (pv 1) (blkOk_by (own := [("_law_kind", 2)]) (N := ["_law_e", "_law_kinds", "_law_kind"]) (sc := defScope sLawSingle) (by decide +kernel)) (fun _ _ _ _ _ => pg_name (i := 2) scLawSingle.nd rfl (Or.inl rfl)) (fun _ _ _ _ _ => pts_one (pt_val (pv 2))) (fun _ _ _ _ _ => pe_int)) pa_nil)) pe_int (nomark _))))))))))))), ?_⟩
    have e0 : Same H H := Same.refl _
    have d0 := hd
    refine ⟨_, rfl, .ref (ga K "BadSize"), .ref (ga K "BadSize"), false, _, rfl, d0, (fun u r => r), Z.no_BadSize, _, rfl, .ref (ga K "BadTable"), .ref (ga K "BadTable"), false, _, rfl, d0, (fun u r => r), Z.no_BadTable, _, rfl, .ref (ga K "UnknownWord"), .ref (ga K "UnknownWord"), false, _, rfl, d0, (fun u r => r), Z.no_UnknownWord, _, rfl, .ref (ga K "SizeMismatch"), .ref (ga K "SizeMismatch"), false, _, rfl, d0, (fun u r => r), Z.no_SizeMismatch, by show 4 ≤ sizeLine; decide, fun l1 n1 => ?_⟩
    have e1 : Same H (L2.upd H l1 (.lst [V.bl false, V.bl false, V.bl false, V.bl false])) := Same.upd e0 n1
    have q1 : (L2.upd H l1 (.lst [V.bl false, V.bl false, V.bl false, V.bl false])) l1 = some (.lst ([false, false, false, false].map V.bl)) := upd_same
    have d1 := e1 _ _ hd
    generalize L2.upd H l1 (.lst [V.bl false, V.bl false, V.bl false, V.bl false]) = H1 at e1 q1 d1 ⊢
    refine ⟨_, rfl, _, rfl, .ref (ga K "BadCount"), .ref (ga K "BadCount"), false, _, rfl, d1, (fun u r => r), Z.no_BadCount, _, rfl, .ref (ga K "BadPerson"), .ref (ga K "BadPerson"), false, _, rfl, d1, (fun u r => r), Z.no_BadPerson, _, rfl, .ref (ga K "BadLetter"), .ref (ga K "BadLetter"), false, _, rfl, d1, (fun u r => r), Z.no_BadLetter, by show 3 ≤ sizeLine; decide, fun m1 k1 => ?_⟩
    have f1 : Same H1 (L2.upd H1 m1 (.lst [V.bl false, V.bl false, V.bl false])) := Same.upd (Same.refl _) k1
    have M1 : (L2.upd H1 m1 (.lst [V.bl false, V.bl false, V.bl false])) m1 = some (.lst ([false, false, false].map V.bl)) := upd_same
    generalize L2.upd H1 m1 (.lst [V.bl false, V.bl false, V.bl false]) = J1 at f1 M1 ⊢
    refine ⟨l1, m1, _, _, rfl, rfl, f1 _ _ q1, M1, by show 7 ≤ sizeLine; decide, fun l2 n2 => ?_⟩
    have e2 : Same H (L2.upd J1 l2 (.lst ([false, false, false, false].map V.bl ++ [false, false, false].map V.bl))) := Same.upd (e1.trans f1) n2
    have q2 : (L2.upd J1 l2 (.lst ([false, false, false, false].map V.bl ++ [false, false, false].map V.bl))) l2 = some (.lst ([false, false, false, false, false, false, false].map V.bl)) := upd_same
    have d2 := e2 _ _ hd
    generalize L2.upd J1 l2 (.lst ([false, false, false, false].map V.bl ++ [false, false, false].map V.bl)) = H2 at e2 q2 d2 ⊢
    refine ⟨_, rfl, _, rfl, .ref (ga K "UnknownPerson"), .ref (ga K "UnknownPerson"), false, _, rfl, d2, (fun u r => r), Z.no_UnknownPerson, _, rfl, .ref (ga K "TooMany"), .ref (ga K "TooMany"), true, _, rfl, d2, (fun u r => r), Z.ye_TooMany, _, rfl, .ref (ga K "BadPattern"), .ref (ga K "BadPattern"), false, _, rfl, d2, (fun u r => r), Z.no_BadPattern, by show 3 ≤ sizeLine; decide, fun m2 k2 => ?_⟩
    have f2 : Same H2 (L2.upd H2 m2 (.lst [V.bl false, V.bl true, V.bl false])) := Same.upd (Same.refl _) k2
    have M2 : (L2.upd H2 m2 (.lst [V.bl false, V.bl true, V.bl false])) m2 = some (.lst ([false, true, false].map V.bl)) := upd_same
    generalize L2.upd H2 m2 (.lst [V.bl false, V.bl true, V.bl false]) = J2 at f2 M2 ⊢
    refine ⟨l2, m2, _, _, rfl, rfl, f2 _ _ q2, M2, by show 10 ≤ sizeLine; decide, fun l3 n3 => ?_⟩
    have e3 : Same H (L2.upd J2 l3 (.lst ([false, false, false, false, false, false, false].map V.bl ++ [false, true, false].map V.bl))) := Same.upd (e2.trans f2) n3
    have q3 : (L2.upd J2 l3 (.lst ([false, false, false, false, false, false, false].map V.bl ++ [false, true, false].map V.bl))) l3 = some (.lst ([false, false, false, false, false, false, false, false, true, false].map V.bl)) := upd_same
    have d3 := e3 _ _ hd
    generalize L2.upd J2 l3 (.lst ([false, false, false, false, false, false, false].map V.bl ++ [false, true, false].map V.bl)) = H3 at e3 q3 d3 ⊢
    refine ⟨_, rfl, _, rfl, .ref (ga K "SameWord"), .ref (ga K "SameWord"), false, _, rfl, d3, (fun u r => r), Z.no_SameWord, _, rfl, .ref (ga K "UnknownClue"), .ref (ga K "UnknownClue"), false, _, rfl, d3, (fun u r => r), Z.no_UnknownClue, _, rfl, .ref (ga K "BadPlace"), .ref (ga K "BadPlace"), false, _, rfl, d3, (fun u r => r), Z.no_BadPlace, by show 3 ≤ sizeLine; decide, fun m3 k3 => ?_⟩
    have f3 : Same H3 (L2.upd H3 m3 (.lst [V.bl false, V.bl false, V.bl false])) := Same.upd (Same.refl _) k3
    have M3 : (L2.upd H3 m3 (.lst [V.bl false, V.bl false, V.bl false])) m3 = some (.lst ([false, false, false].map V.bl)) := upd_same
    generalize L2.upd H3 m3 (.lst [V.bl false, V.bl false, V.bl false]) = J3 at f3 M3 ⊢
    refine ⟨l3, m3, _, _, rfl, rfl, f3 _ _ q3, M3, by show 13 ≤ sizeLine; decide, fun l4 n4 => ?_⟩
    have e4 : Same H (L2.upd J3 l4 (.lst ([false, false, false, false, false, false, false, false, true, false].map V.bl ++ [false, false, false].map V.bl))) := Same.upd (e3.trans f3) n4
    have q4 : (L2.upd J3 l4 (.lst ([false, false, false, false, false, false, false, false, true, false].map V.bl ++ [false, false, false].map V.bl))) l4 = some (.lst ([false, false, false, false, false, false, false, false, true, false, false, false, false].map V.bl)) := upd_same
    have d4 := e4 _ _ hd
    generalize L2.upd J3 l4 (.lst ([false, false, false, false, false, false, false, false, true, false].map V.bl ++ [false, false, false].map V.bl)) = H4 at e4 q4 d4 ⊢
    refine ⟨_, rfl, _, rfl, .ref (ga K "TooLong"), .ref (ga K "TooLong"), false, _, rfl, d4, (fun u r => r), Z.no_TooLong, _, rfl, .ref (ga K "Melted"), .ref (ga K "Melted"), false, _, rfl, d4, (fun u r => r), Z.no_Melted, _, rfl, .ref (ga K "NothingToUndo"), .ref (ga K "NothingToUndo"), false, _, rfl, d4, (fun u r => r), Z.no_NothingToUndo, by show 3 ≤ sizeLine; decide, fun m4 k4 => ?_⟩
    have f4 : Same H4 (L2.upd H4 m4 (.lst [V.bl false, V.bl false, V.bl false])) := Same.upd (Same.refl _) k4
    have M4 : (L2.upd H4 m4 (.lst [V.bl false, V.bl false, V.bl false])) m4 = some (.lst ([false, false, false].map V.bl)) := upd_same
    generalize L2.upd H4 m4 (.lst [V.bl false, V.bl false, V.bl false]) = J4 at f4 M4 ⊢
    refine ⟨l4, m4, _, _, rfl, rfl, f4 _ _ q4, M4, by show 16 ≤ sizeLine; decide, fun l5 n5 => ?_⟩
    have e5 : Same H (L2.upd J4 l5 (.lst ([false, false, false, false, false, false, false, false, true, false, false, false, false].map V.bl ++ [false, false, false].map V.bl))) := Same.upd (e4.trans f4) n5
    have q5 : (L2.upd J4 l5 (.lst ([false, false, false, false, false, false, false, false, true, false, false, false, false].map V.bl ++ [false, false, false].map V.bl))) l5 = some (.lst ([false, false, false, false, false, false, false, false, true, false, false, false, false, false, false, false].map V.bl)) := upd_same
    have d5 := e5 _ _ hd
    generalize L2.upd J4 l5 (.lst ([false, false, false, false, false, false, false, false, true, false, false, false, false].map V.bl ++ [false, false, false].map V.bl)) = H5 at e5 q5 d5 ⊢
    refine ⟨_, rfl, _, rfl, .ref (ga K "NothingToRedo"), .ref (ga K "NothingToRedo"), false, _, rfl, d5, (fun u r => r), Z.no_NothingToRedo, _, rfl, .ref (ga K "Refused"), .ref (ga K "Refused"), false, _, rfl, d5, (fun u r => r), Z.no_Refused, _, rfl, .ref (ga K "BadLine"), .ref (ga K "BadLine"), false, _, rfl, d5, (fun u r => r), Z.no_BadLine, by show 3 ≤ sizeLine; decide, fun m5 k5 => ?_⟩
    have f5 : Same H5 (L2.upd H5 m5 (.lst [V.bl false, V.bl false, V.bl false])) := Same.upd (Same.refl _) k5
    have M5 : (L2.upd H5 m5 (.lst [V.bl false, V.bl false, V.bl false])) m5 = some (.lst ([false, false, false].map V.bl)) := upd_same
    generalize L2.upd H5 m5 (.lst [V.bl false, V.bl false, V.bl false]) = J5 at f5 M5 ⊢
    refine ⟨l5, m5, _, _, rfl, rfl, f5 _ _ q5, M5, by show 19 ≤ sizeLine; decide, fun l6 n6 => ?_⟩
    have e6 : Same H (L2.upd J5 l6 (.lst ([false, false, false, false, false, false, false, false, true, false, false, false, false, false, false, false].map V.bl ++ [false, false, false].map V.bl))) := Same.upd (e5.trans f5) n6
    have q6 : (L2.upd J5 l6 (.lst ([false, false, false, false, false, false, false, false, true, false, false, false, false, false, false, false].map V.bl ++ [false, false, false].map V.bl))) l6 = some (.lst ([false, false, false, false, false, false, false, false, true, false, false, false, false, false, false, false, false, false, false].map V.bl)) := upd_same
    have d6 := e6 _ _ hd
    generalize L2.upd J5 l6 (.lst ([false, false, false, false, false, false, false, false, true, false, false, false, false, false, false, false].map V.bl ++ [false, false, false].map V.bl)) = H6 at e6 q6 d6 ⊢
    refine ⟨_, rfl, .ref (ga K "MurmurError"), .ref (ga K "MurmurError"), true, _, rfl, d6, (fun u r => r), Z.ye_MurmurError, ?_⟩
    refine ⟨true, rfl, ?_⟩
    refine ⟨_, rfl, .ty "ValueError", .type "ValueError", true, _, rfl, d6, (fun u r => r), Z.ye_ValueError, ?_⟩
    refine ⟨true, rfl, ?_⟩
    obtain ⟨BS, hBS⟩ : ∃ BS : List Bool, BS = [false, false, false, false, false, false, false, false, true, false, false, false, false, false, false, false, false, false, false] := ⟨_, rfl⟩
    rw [← hBS] at q6
    have hBl : BS.length = 19 := by rw [hBS]; rfl
    have hBf : ((BS.filter id).map fun _ => V.int 1).length = 1 := by rw [hBS]; rfl
    refine ⟨_, rfl, l6, rfl, ⟨_, SqL.of q6⟩, fun D hD => ?_⟩
    refine lc_keep (J := Itl K l6) (walk_list (xs := BS.map V.bl)) hD (fun i H' acc => acc = ((BS.take i).filter id).map fun _ => V.int 1) rfl (fun H' e' => SqL.of (e' _ _ q6)) ?_ ?_
    · rintro i x H2 H3 acc hi e2 hDa rfl ⟨rfl, hx⟩
      obtain ⟨b, hb, rfl⟩ : ∃ b, BS[i]? = some b ∧ x = V.bl b := by
        rw [List.getElem?_map] at hx
        cases e : BS[i]? with
        | none => rw [e] at hx; cases hx
        | some b => rw [e] at hx; exact ⟨b, rfl, (Option.some.inj hx).symm⟩
      have ht : BS.take (i + 1) = BS.take i ++ [b] := by rw [List.take_add_one, hb]; rfl
      have hlen : (((BS.take i).filter id).map fun _ => V.int 1).length < 1000 := by
        rw [List.length_map]
        have h1 := List.length_filter_le id (BS.take i)
        rw [List.length_take] at h1
        omega
      refine ⟨rfl, _, rfl, b, rfl, ?_⟩
      cases b with
      | true =>
        refine iteT (PvK.more hD e2 hDa hlen ?_)
        rw [ht, List.filter_append, List.map_append]
        rfl
      | false =>
        refine iteF ⟨_, e2, hDa, ?_⟩
        show _ = List.map (fun _ => V.int 1) (List.filter id (List.take (i + 1) BS))
        rw [ht, List.filter_append, List.map_append]
        exact (List.append_nil _).symm
    · rintro H2 acc e2 hDa rfl
      rw [List.length_map, List.take_length] at hDa
      refine ⟨D, _, rfl, .inl (SqL.of hDa), rfl, ?_⟩
      rw [hBf]
      exact k H2 (e6.trans e2)
end
end Mz
namespace Mz
open PySem PySem.Spec PyProof.Rows L2 L2H He C8
/-- what is raised is wished for at any slots -/
theorem passLen {X : Cx} {W : WX} (tk : L2N.Takes X W) : Passes (L2N.CX X.prog X.w) X (fun cls d H' => ∀ σ : L2.St, σ.length = X.N.length → W cls d σ H') := fun pins σ H s e s' I c => tk e s' (L2N.XE.of_call I (fun cls d H' h => h σ I.len) c)
theorem takes0N {X : Cx} : L2N.Takes X (fun _ _ _ _ => False) := fun _ _ ⟨_, _, _, _, _, _, _, _, _, _, _, _, _, _, _, _, w⟩ => w.elim
def spLawTooMany (K : PySem.W.Frag) : Sp := fun vs H Q _ => ∃ (c d n : Nat) (tb : Nat → List Nat) (F : List (Nat × Addr)), vs = [.ref c, .int 60] ∧ CastAt K H c d n tb F ∧ 60 < (Mu.due n ((lets F).map tb)).length ∧
  ∀ H' l, Same H H' → H' l = some (.lst [.int 60, .bl true]) → Q (.ref l) H'
theorem scLawTooMany : FnScope ["_law_cast_here", "_law_cap", "_law_e"] ["_law_cast_here", "_law_cap"] (defScope sLawTooMany) := fnScope_by (by decide +kernel)
section
variable {P : Program} {w : World} {K : PySem.W.Frag} {mg : Str → Option Value} {base : Heap}
theorem c__law_too_many (Z : Th K mg) (PF : PFile P fileM) : Cal P w K mg base 8 "_law_too_many" (spLawTooMany K) [] := by
  have T := Z.e.z.y.t
  obtain ⟨fdL, FL, bL⟩ := mk_Lot (P := P) (w := w) (base := base) Z.e PF
  obtain ⟨fdS, FS, bS⟩ := c__law_single (P := P) (w := w) (base := base) Z
  have kpS : PySem.W.keepIn K (.ref (ga K "_law_single")) = true := T.d__law_single.choose_spec.kp
  refine calD T.d__law_too_many T.g__law_too_many scLawTooMany (fun _ _ _ _ _ _ us hl => match us, hl with | [_, _], _ => rfl) (fun vs H Q E h => ?_) (fun cdv A outer s H vs Q E hr h => ?_)
  · obtain ⟨_, _, _, _, _, rfl, _⟩ := h
    rfl
  · obtain ⟨c, d, n, tb, F, rfl, hC, hbig, k⟩ := h
    refine ⟨_, pss_cons (L2N.ps_try_as (i := 2) rfl rfl scLawTooMany.nd rfl rfl ⟨rfl, by decide, .inl T.g_TooMany⟩ takes0N
        (fun W pn xe tk _ => pss_one (ps_expr (pe_makeK (E := fun cls d H' => ∀ σ : L2.St, σ.length = 3 → W cls d σ H') T.k_Lot FL hr rfl T.g_Lot bL (passLen tk) (pa_cons (pv 0) pa_nil) (pk_cons (pv 1) pk_nil))))
        (fun a oe cls d pn hz hf => pss_one (ps_ret (pe_lst (pa_cons (pe_xf Z.xf Z.e.tml hz.zc hf (pv 2)) (pa_cons (pe_callS (k := 2) hz.zc FS ⟨(hr.mono (show 2 ≤ 7 by decide)).dp, (hr.mono (show 2 ≤ 7 by decide)).un⟩ ⟨rfl, hf.imp fun vs h => ⟨h, hz.2.2 vs h⟩⟩ List.mem_cons_self rfl T.g__law_single kpS bS (pa_cons (pv 2) pa_nil)) pa_nil))))))
      (pss_one (ps_ret (pe_lst pa_nil))), ?_⟩
    refine ⟨_, rfl, _, rfl, rfl, rfl, fun x dx hx hdx ne => ?_⟩
    have e0 : Same H (L2.upd (L2.upd H dx (.own x)) x (.ins (ga K "Lot") dx [])) := Same.updn (Same.upd (Same.refl _) hdx) hx
    refine ⟨x, dx, c, d, n, tb, F, rfl, upd_same, hC.same e0, fun hsm => absurd hbig (Nat.not_lt.mpr hsm), fun _ H' e eX hne he σ hσ => ⟨true, Z.xm, fun _ a ha => ?_, fun q => Bool.noConfusion q⟩⟩
    obtain ⟨s0, s1, s2, rfl⟩ : ∃ a b c, σ = [a, b, c] := by
      match σ, hσ with
      | [a, b, c], _ => exact ⟨a, b, c, rfl⟩
    refine ⟨_, rfl, rfl, rfl, e, _, _, rfl, he, rfl, ?_⟩
    refine ⟨_, rfl, rfl, rfl, e, _, rfl, he, fun H2 e2 => ⟨by show 2 ≤ sizeLine; decide, fun l hl => ?_⟩⟩
    refine k _ l ?_ upd_same
    refine Same.upd (fun b o hb => e2 _ _ (eX b o (ne_of_none hb hx) (e0 b o hb))) hl
end
end Mz
/-! the end of a law whose promise holds where no guard stands -/
namespace Mz
open PySem PySem.Spec PyProof.Rows L2
theorem law_goG {P : Program} {w : World} {K : PySem.W.Frag} {mg mb : Str → Option Value} {CX : CXT} {k : Nat} {fa a : Addr} {fd : FuncData} {x : Str} {sp : Sp} {s₁ : Shared} {vs : List Value} {ns : List Int}
    (KX : K.In s₁.heap) (hns : s₁.heap.Ns mainGlobals mg) (hb : s₁.heap.Ns builtinsNs mb) (hbb : ∀ x : Str, x ≠ "__name__" → mb x = bootBuiltins x)
    (hlim : s₁.heap.NoLimit) (hg : s₁.gens = #[]) (ha : s₁.heap.get? a = some { cls := .type "list", data := .seq vs.toArray }) (hi : IntsAre vs ns) (hl : ns.length ≤ sizeLine)
    (hr : Room k callerA) (F : ∀ base : Heap, K.In base → base.Ns mainGlobals mg → FnG P w K mg base CX k fa fd [x] sp)
    (hbind : ∀ (s : Shared) (u : Value), BindsTo s fd ⟨[u], []⟩ [(x, u)]) (hsp : ∀ H : Hp, Only H → SqL K H a (ns.map V.int) → sp [.ref a] H (fun v _ => v = .bl true) fun _ _ _ => False)
    (hCX : ∀ H e s', CX [] H s₁ (fun _ _ _ => False) e s' → False) :
    codeAny (model P w) callerA (.call (.ref fa) ⟨[.ref a], []⟩) (fun r s' => r = .ok (.ret (.bool true)) ∧ OldK s₁.heap s'.heap ∧ s'.os = s₁.os ∧ AllBare s'.gens) s₁ := by
  have rv := vals_ints hi
  have lenV := hi.length
  have core : ∀ H : Hp, Only H → SqL K H a (ns.map V.int) → HOk P w H s₁.heap → (∀ b, H b ≠ none → b = a) → (H a ≠ none → K.lookup a = none) → codeAny (model P w) callerA (.call (.ref fa) ⟨[.ref a], []⟩) (fun r s' => r = .ok (.ret (.bool true)) ∧ OldK s₁.heap s'.heap ∧ s'.os = s₁.os ∧ AllBare s'.gens) s₁ := by
    intro H hO hS hok hA hK
    have isA : ∀ {b : Addr} {u : HO}, H b = some u → b = a := fun {b u} q => hA b (by rw [q]; simp)
    have bs0 : ∀ {b : Addr} {o : Obj}, s₁.heap.get? b = some o → H b = none → (hidT s₁.heap H).get? b = some o := fun e n => hidT_get e n
    have noA : ∀ {b : Addr} {o : Obj} {es : Array DictEntry} {ep : Nat}, s₁.heap.get? b = some o → o.data = .dict es ep → H b = none := fun {b o es ep} e dd => by
      cases q : H b with
      | none => rfl
      | some u =>
        obtain rfl := isA q
        rw [ha] at e
        cases e
        exact absurd (show Data.seq vs.toArray _ = Data.dict es ep from dd) (fun z => by cases z)
    have nsK : ∀ {b : Addr} {m : Str → Option Value}, s₁.heap.Ns b m → (hidT s₁.heap H).Ns b m := fun {b m} ⟨o, es, ep, e, dd, r⟩ => ⟨o, es, ep, bs0 e (noA e dd), dd, r⟩
    have hKb : K.In (hidT s₁.heap H) := fun b o e => bs0 (KX b o e) (by
      cases q : H b with
      | none => rfl
      | some u =>
        obtain rfl := isA q
        rw [hK (by rw [q]; simp)] at e
        cases e)
    have hM : Mod K mg (hidT s₁.heap H) := ⟨hKb, nsK hns, ⟨mb, nsK hb, hbb⟩, hlim.imp fun mc h => ⟨nsK h.1, h.2⟩⟩
    have e0 : Env0 P w K mg (hidT s₁.heap H) callerA [] s₁ H := ⟨rfl, hM, fun b o e => of_hidT e, Nat.le_of_eq (hidT_size _ _), trivial, (fun b hb => absurd (show b ∈ ([] : List Addr) from hb) List.not_mem_nil), hok, .of_eq hg⟩
    refine codeAny_mono ((F _ hKb (nsK hns)).go callerA [] s₁ H ⟨[.ref a], []⟩ [.ref a] [.ref a] _ _ rfl hr e0 (hbind s₁ (.ref a)) (.cons rfl .nil) (hsp H hO hS)) fun r s' h => ?_
    cases r with
    | error e => exact (hCX H e s' h).elim
    | ok fl =>
      cases fl with
      | next => exact False.elim h
      | brk => exact False.elim h
      | cont => exact False.elim h
      | ret u =>
        obtain ⟨v, H', os, bare, un, hok', r', q⟩ := h
        obtain rfl : v = .bl true := q
        obtain rfl : u = Value.bool true := r'
        refine ⟨rfl, OldK.of_keep fun b o e => ?_, os, bare⟩
        cases q : H b with
        | none => exact un.keep b o e q (fun z => by cases z) (by simp)
        | some u =>
          rcases hO b with z | ⟨ob, xs, z⟩
          · rw [q] at z
            cases z
          · obtain ⟨q1, _⟩ := hok b _ z
            obtain ⟨q2, _⟩ := hok' b _ (un.frzs b ob _ z)
            rw [e] at q1
            cases q1
            exact q2
  cases hk : K.lookup a with
  | some o =>
    have e := KX a o hk
    rw [ha] at e
    cases e
    refine core (fun _ => none) (fun _ => .inl rfl) (.inr ⟨_, vs.toArray, _, hk, rfl, rfl, rfl, by rw [List.size_toArray, lenV]; exact hl, by simpa using rv⟩) (fun b u z => ?_) (fun b z => absurd rfl z) fun z => absurd rfl z
    exact absurd (show (none : Option HO) = some u from z) (fun z => by cases z)
  | none =>
    refine core (fun b => if b = a then some (.frz { cls := .type "list", data := .seq vs.toArray } (.lst (ns.map V.int))) else none) (fun b => ?_) (.inl (.inr ⟨{ cls := .type "list", data := .seq vs.toArray }, if_pos rfl⟩)) (fun b u z => ?_) (fun b z => ?_) fun _ => hk
    · exact (Classical.em (b = a)).elim (fun hb => .inr ⟨_, _, if_pos hb⟩) fun hb => .inl (if_neg hb)
    · by_cases hb : b = a
      · cases (if_pos hb).symm.trans z
        subst hb
        exact ⟨ha, by rw [List.length_map]; exact hl, vs, _, rv, ha⟩
      · cases (if_neg hb).symm.trans z
    · exact Classical.byContradiction fun hb => z (if_neg hb)
theorem walk_ofG {l : PySem.W.OpenLaw} {n k : Nat} {q : Program} {loose : List Str} {XP : (Str → Option Value) → Heap → Prop} {YP : World → Heap → Prop} {d : DefRec} {CX : CXT} {x : Str} (hn : l.most = some n) (hn2 : n ≤ sizeLine)
    (hdf : d.params.defaults = []) (hr : Room k callerA) (F : ∀ (w : World) (mg : Str → Option Value) (fa : Addr) (h : Heap), YP w h → h.Ns mainGlobals mg → mg d.name = some (.ref fa) →
      ∃ (K : PySem.W.Frag) (fd : FuncData) (sp : Sp), K.In h ∧ (∀ (s : Shared) (u : Value), BindsTo s fd ⟨[u], []⟩ [(x, u)]) ∧ (∀ (H : Hp) (a : Addr) (ns : List Int), ns.length ≤ n → Only H → SqL K H a (ns.map V.int) → sp [.ref a] H (fun v _ => v = .bl true) fun _ _ _ => False) ∧
        ∀ base : Heap, K.In base → base.Ns mainGlobals mg → FnG l.prog w K mg base CX k fa fd [x] sp) (hCX : ∀ (H : Hp) (s : Shared) (e : Value) (s' : Shared), CX [] H s (fun _ _ _ => False) e s' → False) :
    PySem.W.WalkO q loose XP YP l.row.toRowW d [] (fun f vs => PySem.call f vs) := by
  refine Att.attach_call hn hdf fun w s₀ s₁ mg mb fa o pm cd doc a vs ns G Y ho hd hcd hmg hobj hints hlen hg => ?_; obtain ⟨K, fd, sp, KX, hb, hsp, hF⟩ := F w mg fa _ Y G.T.g hmg
  exact law_goG KX G.T.g G.T.b G.T.builtins G.T.nolimit hg hobj hints (Nat.le_trans hlen hn2) hr hF hb (fun H hO hS => hsp H a ns hlen hO hS) (fun H e s' => hCX H s₁ e s')
end Mz
namespace Mz
open PySem PySem.Spec PyProof.Rows L2 He C8
theorem lV_box {L : Addr} {i a b : Int} {cs : List Nat} : HO.lst (cs.map lV) ≠ boxO L i a b := fun z => by
  unfold boxO at z
  injection z with z
  match cs, z with
  | [], z => cases z
  | x :: _, z => cases z
theorem CastAt.sameB {K : PySem.W.Frag} {B L : Addr} {H H' : Hp} {x d : Addr} {n : Nat} {tb : Nat → List Nat} {F : List (Nat × Addr)} (h : CastAt K H x d n tb F) (e : SameX B H H') (b : BoxAt H B L) : CastAt K H' x d n tb F := by
  obtain ⟨dx, r, h1, h2, h3, h4, h5⟩ := h
  obtain ⟨ns, i, y, z, hb, _⟩ := b
  have go : ∀ {p : Addr} {o : HO}, H p = some o → o ≠ boxO L i y z → H' p = some o := fun q1 q2 => e _ _ (ne_of q1 hb q2) q1
  refine ⟨dx, r, go h1 (fun q => by unfold boxO at q; cases q), go h2 (fun q => by unfold boxO at q; cases q), go h3 lV_box, fun p hp => ?_, h5⟩
  obtain ⟨tx, t, c, g1, g2⟩ := h4 p hp
  exact ⟨tx, t, c, go g1 (fun q => by unfold boxO at q; cases q), go g2 (fun q => by unfold boxO ntup at q; cases q)⟩
theorem nodup_len : ∀ {K l : List Nat}, l.Nodup → (∀ c ∈ l, c ∈ K) → l.length ≤ K.length
  | [], l, _, h => by
    cases l with
    | nil => exact Nat.le_refl _
    | cons c l => exact absurd (h c (List.mem_cons_self ..)) List.not_mem_nil
  | k :: K, l, hd, h => by
    have h1 := nodup_len (K := K) (l := l.erase k) (hd.erase k) (fun c hc => by
      obtain ⟨h2, h3⟩ := hd.mem_erase_iff.mp hc
      exact (List.mem_cons.mp (h c h3)).elim (fun z => absurd z h2) id)
    rw [List.length_erase] at h1
    rw [List.length_cons]
    split at h1 <;> omega
theorem gok_of {n : Nat} {E : List Ent} {G : List (Nat × Addr)} (n1 : 1 ≤ n) (n3 : n ≤ 3) (hE4 : E.length ≤ 4) (hEd : (E.map (·.1)).Nodup) (hEa : ∀ e ∈ E, e.1 ∈ abc) (hG : G.map (·.1) = abc.filter (fun c => decide (c ∈ E.map (·.1)))) : GOk n (tbE n E) G := by
  have hm : ∀ c ∈ G.map (·.1), c ∈ abc ∧ c ∈ E.map (·.1) := fun c hc => by
    rw [hG] at hc
    obtain ⟨h1, h2⟩ := List.mem_filter.mp hc
    exact ⟨h1, of_decide_eq_true h2⟩
  have hnd : (G.map (·.1)).Nodup := by
    rw [hG]
    exact abc_nodup.sublist List.filter_sublist
  refine ⟨n1, n3, hnd, fun c hc => (hm c hc).1, ?_, fun c hc => ?_⟩
  · have := nodup_len hnd (fun c hc => (hm c hc).2)
    rw [List.length_map, List.length_map] at this
    omega
  · obtain ⟨e, he, rfl⟩ := List.mem_map.mp (hm c hc).2
    rw [tbE_at hEd he]
    exact mkM_rel n3 _ _
def spLaw (K : PySem.W.Frag) : Sp := fun vs H Q _ => ∃ (a : Addr) (ns : List Int), vs = [.ref a] ∧ SqL K H a (ns.map V.int) ∧ ∀ H', Q (.bl true) H'
theorem scLaw : FnScope ["_law_script", "_law_box_here", "_law_n", "_law_folk", "_law_own_here", "_law_cast_here", "_law_row_here", "_law_other", "_law_rest", "_law_k", "_law_at", "_law_due", "_law_lot_here", "_law_path", "_law_now"] ["_law_script"] (defScope sLaw) := fnScope_by (by decide +kernel)
section
variable {P : Program} {w : World} {K : PySem.W.Frag} {mg : Str → Option Value} {base : Heap}
theorem m_Cast_through (T : Tx K mg) : Met P w K mg base 6 (ga K "Cast") "through" (spCastThrough K) [] := by
  obtain ⟨fd, F, b⟩ := f_Cast_through (P := P) (w := w) (base := base) T
  exact ⟨_, fd, _, [], T.c_Cast, T.h_Cast_through, F.mono (by decide), b, .nil⟩
theorem m_Lot_least (T : Tx K mg) : Met P w K mg base 4 (ga K "Lot") "least" (spLotLeast K) [] := by
  obtain ⟨fd, F, b⟩ := f_Lot_least (P := P) (w := w) (base := base) T
  exact ⟨_, fd, _, [], T.c_Lot, T.h_Lot_least, F.mono (by decide), b, .nil⟩
theorem c_law (Z : Th K mg) (PF : PFile P fileM) {fd : FuncData} (F : FunD K "law" "law" (defArgs sLaw) (defBody sLaw) (defScope sLaw) [] [] (ga K "law") fd) : FnG P w K mg base C8.CX0 11 (ga K "law") fd ["_law_script"] (spLaw K) := by
  have T := Z.e.z.y.t
  obtain ⟨fdL, FL, bL⟩ := mk_Lot (P := P) (w := w) (base := base) Z.e PF
  refine fnG F scLaw (fun vs H Q E h => ?_) (fun cdv A outer s H vs Q E hgd hr h => ?_)
  · obtain ⟨_, _, rfl, _⟩ := h
    rfl
  · obtain ⟨a, ns, rfl, hS, k⟩ := h
    have hu := hu_of hr
    refine ⟨_, PSs.nox (pss_cons (ps_set (i := 1) scLaw.nd rfl (Or.inl rfl) (pe_c (c__law_box T) hr (by decide) rfl (pa_cons (pv 0) pa_nil)))
      (pss_cons (ps_set (i := 2) scLaw.nd rfl (Or.inl rfl) (pe_op op_add pe_int (pe_c (c__law_take T) hr (by decide) rfl (pa_cons (pv 1) (pa_cons pe_int pa_nil)))))
      (pss_cons (ps_set (i := 3) scLaw.nd rfl (Or.inl rfl) (pe_c (c__law_calm_folk T) hr (by decide) rfl (pa_cons (pv 1) (pa_cons (pv 2) (pa_cons (pe_op op_mod (pe_callTy call_int1 (by rfl) T.z_int (by decide +kernel) (pa_cons (pe_op op_add pe_int (pe_c (c__law_take T) hr (by decide) rfl (pa_cons (pv 1) (pa_cons pe_int pa_nil)))) pa_nil)) pe_int) pa_nil)))))
      (pss_cons (ps_set (i := 4) scLaw.nd rfl (Or.inl rfl) (pe_c (c__law_own T) hr (by decide) rfl (pa_cons (pv 3) pa_nil)))
      (pss_cons (ps_set (i := 5) scLaw.nd rfl (Or.inl rfl) (pe_c (c__law_cast Z.e.z.y PF) hr (by decide) rfl (pa_cons (pv 2) (pa_cons (pv 3) pa_nil))))
      (pss_cons (ps_set (i := 6) scLaw.nd rfl (Or.inl rfl) (pe_c (c__law_row T) hr (by decide) rfl (pa_cons (pv 1) (pa_cons (pv 4) (pa_cons pe_int pa_nil)))))
      (pss_cons (ps_set (i := 7) scLaw.nd rfl (Or.inl rfl) (pe_c (c__law_row T) hr (by decide) rfl (pa_cons (pv 1) (pa_cons (pv 4) (pa_cons pe_int pa_nil)))))
      (pss_cut (ps_if (pt_cmpR op_eq (pe_c (c__law_take T) hr (by decide) rfl (pa_cons (pv 1) (pa_cons pe_int pa_nil))) pe_int (nomark _))
        (pss_cons (ps_set (i := 8) scLaw.nd rfl (Or.inl rfl) (pv 6))
        (pss_cons (ps_set (i := 7) scLaw.nd rfl (Or.inl rfl) pe_str)
        (pss_one (ps_for PassesOwn.never rfl (pi_range1 rfl T.z_range (pa_cons (pe_callB call_len_str (by rfl) T.z_len PySem.boot_len (pa_cons (pv 6) pa_nil)) pa_nil)) (pg_name (i := 9) scLaw.nd rfl (Or.inl rfl))
          (pss_cons (ps_set (i := 10) scLaw.nd rfl (Or.inl rfl) (pe_c (c__law_take T) hr (by decide) rfl (pa_cons (pv 1) (pa_cons (pe_callB call_len_str (by rfl) T.z_len PySem.boot_len (pa_cons (pv 8) pa_nil)) pa_nil))))
          (pss_cons (ps_set (i := 7) scLaw.nd rfl (Or.inl rfl) (pe_op op_add_str (pv 7) (pe_ix ix_str (pv 8) (pv 10) (fun _ _ => rfl))))
          (pss_one (ps_set (i := 8) scLaw.nd rfl (Or.inl rfl) (pe_op op_add_str (pe_slice C8.sl_txt (pv 8) po_none (po_some (pv 10))) (pe_slice C8.sl_txt (pv 8) (po_some (pe_op op_add (pv 10) pe_int)) po_none))))))))))
        pss_nil)
      (pss_cons (ps_set (i := 11) scLaw.nd rfl (Or.inl rfl) (pe_cG (c__law_lot T) hgd hr (by decide) rfl (pa_cons (pv 4) (pa_cons (pv 2) (pa_cons pe_int pa_nil)))))
      (pss_cons (ps_if (pt_cmpR op_gt (pe_callB (call_lenK (K := K) rfl) (by rfl) T.z_len PySem.boot_len (pa_cons (pv 11) pa_nil)) pe_int (nomark _))
        (pss_one (ps_ret (pe_cmpR (op_eqDK (K := K) rfl hr.units) (pe_c (c__law_too_many Z PF) hr (by decide) rfl (pa_cons (pv 5) (pa_cons pe_int pa_nil))) (pe_lst (pa_cons pe_int (pa_cons pe_bl pa_nil))) (nomark _))))
        pss_nil)
      (pss_cons (ps_set (i := 12) scLaw.nd rfl (Or.inl rfl) (pe_makeK (E := fun _ _ _ => False) T.k_Lot FL (hr.mono (by decide)) rfl T.g_Lot bL passF (pa_cons (pv 5) pa_nil) (pk_cons pe_int pk_nil)))
      (pss_cons (ps_set (i := 13) scLaw.nd rfl (Or.inl rfl) (pe_c (c_swap_path Z.e.z) hr (by decide) rfl (pa_cons (pv 5) (pa_cons (pv 6) (pa_cons (pv 7) pa_nil)))))
      (pss_cons (ps_if (pt_cmpR op_isN (pv 13) pe_non (nomark _))
        (pss_one (ps_ret (pe_cmpR op_notN (pe_c (c_swap_clash Z.e.z) hr (by decide) rfl (pa_cons (pv 5) (pa_cons (pv 6) (pa_cons (pv 7) pa_nil)))) pe_non (nomark _))))
        pss_nil)
      (pss_cons (ps_set (i := 14) scLaw.nd rfl (Or.inl rfl) (pv 6))
      (pss_cons (ps_for PassesOwn.never rfl (pi_list (pv 13)) (pg_name (i := 10) scLaw.nd rfl (Or.inl rfl))
        (pss_cons (ps_if (pt_not (pt_chain op_le op_lt pe_int (pv 10) (pe_op op_sub (pe_callB call_len_str (by rfl) T.z_len PySem.boot_len (pa_cons (pv 14) pa_nil)) pe_int)))
          (pss_one (ps_ret pe_bl))
          pss_nil)
        (pss_cons (ps_set (i := 14) scLaw.nd rfl (Or.inl rfl) (pe_op op_add_str (pe_op op_add_str (pe_op op_add_str (pe_slice C8.sl_txt (pv 14) po_none (po_some (pv 10))) (pe_ix ix_str (pv 14) (pe_op op_add (pv 10) pe_int) (fun _ _ => rfl))) (pe_ix ix_str (pv 14) (pv 10) (fun _ _ => rfl))) (pe_slice C8.sl_txt (pv 14) (po_some (pe_op op_add (pv 10) pe_int)) po_none)))
        (pss_one (ps_if (PW.pt (pw_or (pt_cmpR op_ne (pe_mt (m_Lot_least T) hr (by decide) (pv 12) (pa_cons (pv 14) pa_nil)) (pe_mt (m_Lot_least T) hr (by decide) (pv 12) (pa_cons (pv 6) pa_nil)) (nomark _)) (pw_or1 (pt_cmpR (op_ne_own Z.e.z.ne (eqR Z.e.z) (hr.mono (by decide))) (pe_mt (m_Cast_through T) hr (by decide) (pv 5) (pa_cons (pv 14) pa_nil)) (pe_mt (m_Cast_through T) hr (by decide) (pv 5) (pa_cons (pv 6) pa_nil)) (nomark _)))))
          (pss_one (ps_ret pe_bl))
          pss_nil)))))
      (pss_cons (ps_if (PW.pt (pw_or (pt_cmpR op_ne (pv 14) (pv 7) (nomark _)) (pw_or1 (pt_cmpR op_notN (pe_c (c_swap_clash Z.e.z) hr (by decide) rfl (pa_cons (pv 5) (pa_cons (pv 6) (pa_cons (pv 7) pa_nil)))) pe_non (nomark _)))))
        (pss_one (ps_ret pe_bl))
        pss_nil)
      (pss_one (ps_ret (pe_cmpR (op_eqDK (K := K) rfl hr.units) (pe_c (c__law_through T) hr (by decide) rfl (pa_cons (pv 4) (pa_cons (pv 2) (pa_cons (pv 6) pa_nil)))) (pe_c (c__law_through T) hr (by decide) rfl (pa_cons (pv 4) (pa_cons (pv 2) (pa_cons (pv 7) pa_nil)))) (nomark _)))))))))))))))))))), ?_⟩
    refine ⟨_, rfl, a, ns, rfl, hS, fun H1 B L e1 nB nL b1 => ?_⟩
    refine ⟨_, rfl, B, L, 3, rfl, b1, by decide, by decide, fun H2 r2 e2 b2 hr2 => ⟨_, _, rfl, rfl, ?_⟩⟩
    obtain ⟨n, hn⟩ : ∃ n : Nat, n = 1 + r2 := ⟨_, rfl⟩
    have n1 : 1 ≤ n := by omega
    have n3 : n ≤ 3 := by omega
    have hn2 : (1 : Int) + ((r2 : Nat) : Int) = ((n : Nat) : Int) := by omega
    show gName 2 (V.int ((1 : Int) + ((r2 : Nat) : Int))) _ _ _
    rw [hn2]
    refine ⟨_, rfl, _, rfl, _, rfl, B, L, 4, rfl, b2, by decide, by decide, fun H3 r3 e3 b3 hr3 => ⟨_, _, rfl, rfl, .inl ⟨_, rfl, _, _, rfl, rfl, (show (0 : Int) < 4 by decide), ?_⟩⟩⟩
    obtain ⟨m, hm, hm4⟩ := nat_of (m := 4) (Int.emod_nonneg ((1 : Int) + ((r3 : Nat) : Int)) (show (4 : Int) ≠ 0 by decide)) (Int.emod_lt_of_pos ((1 : Int) + ((r3 : Nat) : Int)) (show (0 : Int) < 4 by decide))
    refine ⟨B, L, n, m, ?_, b3, n1, n3, by omega, fun H4 l e4 b4 nl hE => ?_⟩
    · show [V.ref B, nV n, V.int (((1 : Int) + ((r3 : Nat) : Int)) % 4)] = _
      rw [hm]
    obtain ⟨E, hF, hEl, hEd, hEa⟩ := hE
    have hE4 : E.length ≤ 4 := by omega
    refine ⟨_, rfl, l, n, E, rfl, hF, n1, n3, hE4, hEd, hEa, fun H5 d G e5 nd hOwn hG => ?_⟩
    refine ⟨_, rfl, _, rfl, l, n, E, rfl, hF.same e5, n1, n3, hE4, hEd, hEa, fun H6 x cd F e6 hC hFk => ?_⟩
    have gok : GOk n (tbE n E) G := gok_of n1 n3 hE4 hEd hEa hG
    have hOwn6 := hOwn.same e6
    have b6 := (b4.same e5).same e6
    generalize tbE n E = tb at *
    have hGF : G.map (·.1) = lets F := by
      unfold lets
      rw [hG, hFk]
    have hGs : (G.map fun q => tb q.1) = (lets F).map tb := by
      rw [← hGF, List.map_map]
      rfl
    have inF : ∀ {c : Nat}, c ∈ G.map (·.1) → c ∈ F.map (·.1) := fun hc => by
      rw [hGF] at hc
      exact of_decide_eq_true (List.mem_filter.mp hc).2
    have inL : ∀ {c : Nat}, c ∈ G.map (·.1) → c ∈ lets F := fun hc => by
      rw [hGF] at hc
      exact hc
    refine ⟨_, rfl, _, rfl, B, L, d, n, tb, G, rfl, b6, hOwn6, gok, fun H7 R e7 b7 hR6 hRG => ?_⟩
    have hOwn7 := hOwn6.sameB e7 b6
    have hC7 := hC.sameB e7 b6
    refine ⟨_, rfl, _, rfl, B, L, d, n, tb, G, rfl, b7, hOwn7, gok, fun H8 O0 e8 b8 hO6 hOG => ?_⟩
    have hOwn8 := hOwn7.sameB e8 b7
    have hC8 := hC7.sameB e8 b7
    refine ⟨fun σ H' => ∃ (O : List Nat) (z8 z9 z10 : Option V), σ = [some (.ref a), some (.ref B), some (nV n), some (.ref l), some (.ref d), some (.ref x), some (.str (SX.S R)), some (.str (SX.S O)), z8, z9, z10, none, none, none, none] ∧ OwnAt n H' d tb G ∧ CastAt K H' x cd n tb F ∧ (∀ c ∈ O, c ∈ G.map (·.1)) ∧ O.length ≤ 6, ?_, ?_⟩
    · refine ⟨_, rfl, B, L, 2, rfl, b8, by decide, by decide, fun H9 r9 e9 b9 hr9 => ⟨rfl, _, rfl, ?_⟩⟩
      have hOwn9 := hOwn8.sameB e9 b8
      have hC9 := hC8.sameB e9 b8
      refine ite2 (fun _ => ?_) (fun _ => ⟨O0, none, none, none, rfl, hOwn9, hC9, hOG, hO6⟩)
      refine ⟨_, rfl, _, rfl, _, rfl, sz20 (by omega), _, rfl, ?_⟩
      rw [SX.S_len]
      refine ⟨by omega, by omega, ?_⟩
      refine for_it (walk_range (n := R.length)) (fun i σ H' => ∃ (O rest : List Nat) (z9 z10 : Option V), σ = [some (.ref a), some (.ref B), some (nV n), some (.ref l), some (.ref d), some (.ref x), some (.str (SX.S R)), some (.str (SX.S O)), some (.str (SX.S rest)), z9, z10, none, none, none, none] ∧ OwnAt n H' d tb G ∧ CastAt K H' x cd n tb F ∧ BoxAt H' B L ∧ O.length = i ∧ rest.length = R.length - i ∧ (∀ c ∈ O, c ∈ G.map (·.1)) ∧ ∀ c ∈ rest, c ∈ G.map (·.1))
        ⟨[], R, none, none, rfl, hOwn9, hC9, b9, rfl, by omega, fun c hc => absurd hc List.not_mem_nil, hRG⟩ (fun _ _ _ _ _ => trivial) ?_ ?_
      · rintro i v σ H10 H11 hi ⟨O, rest, z9, z10, rfl, hO10, hC10, b10, hOl, hrl, hOm, hrm⟩ ⟨rfl, rfl⟩
        have szr : (SX.S rest).length ≤ sizeLine := sz20 (by omega)
        refine ⟨_, rfl, _, rfl, _, rfl, szr, B, L, rest.length, by rw [SX.S_len]; rfl, b10, by omega, by omega, fun H12 r e12 b12 hr1 => ?_⟩
        obtain ⟨c, hc⟩ : ∃ c, rest[r]? = some c := ⟨rest[r], List.getElem?_eq_getElem hr1⟩
        have w1 : Txt.slice (SX.S rest) none (some ((r : Nat) : Int)) = SX.S (rest.take r) := by
          rw [SX.slice_to (Int.natCast_nonneg _)]
          rfl
        have w2 : Txt.slice (SX.S rest) (some (((r : Nat) : Int) + 1)) none = SX.S (rest.drop (r + 1)) := by
          rw [SX.slice_from (by omega)]
          rfl
        refine ⟨_, rfl, _, rfl, _, rfl, _, _, c, rfl, rfl, szr, atI_nat hc, _, _, rfl, rfl, ?_, ?_⟩
        · rw [SX.S_len]
          exact Nat.le_of_lt (small1000 (by show O.length + 1 ≤ 1000; omega))
        rw [show (SX.S O ++ (⟨#[c]⟩ : Str)) = SX.S (O ++ [c]) from SX.S_cat O [c]]
        refine ⟨_, rfl, _, rfl, _, rfl, _, rfl, szr, ?_⟩
        rw [w1]
        refine ⟨_, rfl, _, rfl, _, _, rfl, rfl, _, rfl, _, rfl, szr, ?_⟩
        rw [w2]
        refine ⟨_, _, rfl, rfl, ?_, ?_⟩
        · rw [SX.S_len, SX.S_len, List.length_take, List.length_drop]
          exact Nat.le_of_lt (small1000 (by omega))
        rw [SX.S_cat]
        refine ⟨O ++ [c], rest.take r ++ rest.drop (r + 1), _, _, rfl, hO10.sameB e12 b10, hC10.sameB e12 b10, b12, by simp [hOl], ?_, fun u hu => ?_, fun u hu => ?_⟩
        · rw [List.length_append, List.length_take, List.length_drop]
          omega
        · rcases List.mem_append.mp hu with h | h
          · exact hOm u h
          · rw [List.mem_singleton.mp h]
            exact hrm c (List.mem_of_getElem? hc)
        · rcases List.mem_append.mp hu with h | h
          · exact hrm u (List.mem_of_mem_take h)
          · exact hrm u (List.mem_of_mem_drop h)
      · rintro σ H10 ⟨O, rest, z9, z10, rfl, hO10, hC10, b10, hOl, hrl, hOm, hrm⟩
        exact ⟨O, _, _, _, rfl, hO10, hC10, hOm, by omega⟩
    · rintro σ H9 ⟨O, z8, z9, z10, rfl, hO9, hC9, hOm, hOl⟩
      have hRF : ∀ c ∈ R, c ∈ F.map (·.1) := fun c hc => inF (hRG c hc)
      have hOF : ∀ c ∈ O, c ∈ F.map (·.1) := fun c hc => inF (hOm c hc)
      refine ⟨_, rfl, _, rfl, d, n, tb, G, rfl, hO9, gok, fun H10 ld xs e10 hld hxl => ?_⟩
      rw [hGs] at hxl
      have hC10 := hC9.same e10
      have hO10 := hO9.same e10
      refine ⟨_, rfl, ld, xs, rfl, .inl (SqL.of hld), _, _, rfl, rfl, _, rfl, ?_⟩
      rw [hxl]
      by_cases hbig : 60 < (Mu.due n ((lets F).map tb)).length
      · rw [decide_eq_true (show (60 : Int) < (((Mu.due n ((lets F).map tb)).length : Nat) : Int) by omega)]
        refine iteT ⟨_, rfl, x, cd, n, tb, F, rfl, hC10, hbig, fun H11 l1 e11 h11 => ⟨by show 2 ≤ sizeLine; decide, fun l2 hl2 => ?_⟩⟩
        have h12 := Same.upd (o := .lst [V.int 60, V.bl true]) (Same.refl H11) hl2 _ _ h11
        refine ⟨.list [.int 60, .bool true], .list [.int 60, .bool true], .lst (SqL.of h12) (.cons (.int 60) (.cons (.bl true) .nil)), .lst (SqL.of upd_same) (.cons (.int 60) (.cons (.bl true) .nil)), by decide +kernel, by decide +kernel, ?_⟩
        rw [show PyData.eqv (.list [.int 60, .bool true]) (.list [.int 60, .bool true]) = true by decide +kernel]
        exact k _
      · rw [decide_eq_false (show ¬ (60 : Int) < (((Mu.due n ((lets F).map tb)).length : Nat) : Int) by omega)]
        refine iteF ⟨_, rfl, rfl, rfl, fun lo dx hlo hdx ne => ?_⟩
        have e0 : Same H10 (L2.upd (L2.upd H10 dx (.own lo)) lo (.ins (ga K "Lot") dx [])) := Same.updn (Same.upd (Same.refl _) hdx) hlo
        refine ⟨lo, dx, x, cd, n, tb, F, rfl, upd_same, hC10.same e0, fun hsm H11 S C eX hL sok hSk hCk => ⟨rfl, ?_⟩, fun hb => absurd hb hbig⟩
        have e11 : Same H10 H11 := fun b o hb => eX b o (ne_of_none hb hlo) (e0 b o hb)
        have hC11 := hC10.same e11
        have hO11 := hO10.same e11
        refine ⟨_, rfl, _, rfl, _, rfl, x, cd, n, tb, F, R, O, rfl, hC11, hRF, hOF, by omega, by omega, fun H12 e12 hno => ?_, fun q hlen hq H12 lp e12 nlp hlp => ?_⟩
        · refine ⟨_, rfl, rfl, _, rfl, ?_⟩
          rw [decide_eq_true rfl]
          refine iteT ⟨_, rfl, _, rfl, _, rfl, x, cd, n, tb, F, R, O, rfl, hC11.same e12, hRF, hOF, by omega, by omega, fun hf => ?_, fun ht H13 t u e13 h13 => ⟨rfl, ?_⟩⟩
          · rw [Mu.path_none_clash (fun c hc => inL (hRG c hc)) (fun c hc => inL (hOm c hc)) hno] at hf
            cases hf
          · exact k _
        · have hC12 := hC11.same e12
          have hO12 := hO11.same e12
          have hL12 := hL.same e12
          refine ⟨_, rfl, rfl, _, rfl, ?_⟩
          rw [decide_eq_false (show ¬ V.ref lp = V.non by intro z; cases z)]
          refine iteF ⟨_, rfl, ?_⟩
          refine ⟨_, rfl, lp, rfl, ⟨_, SqL.of hlp⟩, for_it (walk_list (xs := q.map nV)) (fun i σ H' => ∃ (W : List Nat) (z10 : Option V), σ = [some (.ref a), some (.ref B), some (nV n), some (.ref l), some (.ref d), some (.ref x), some (.str (SX.S R)), some (.str (SX.S O)), z8, z9, z10, some (.ref ld), some (.ref lo), some (.ref lp), some (.str (SX.S W))] ∧ Same H12 H' ∧ Mu.Chain (Mu.comm tb) W (q.drop i) O ∧ (∀ c ∈ W, c ∈ G.map (·.1)) ∧ W.length = R.length ∧ Mu.after tb (Mu.idm n) W = Mu.after tb (Mu.idm n) R)
            ⟨R, z10, rfl, Same.refl _, by rw [List.drop_zero]; exact Mu.path_some_chain hlen hq, hRG, rfl, rfl⟩ (fun i σ H' _ ⟨W, z10, h1, h2, _⟩ => SqL.of (h2 _ _ hlp)) ?_ ?_⟩
          · rintro i v σ H13 H14 hi ⟨W, z11, rfl, e13, hch, hWm, hWl, hWa⟩ ⟨rfl, hv⟩
            rw [List.length_map] at hi
            rw [List.getElem?_map, List.getElem?_eq_getElem hi] at hv
            cases hv
            rw [List.drop_eq_getElem_cons hi] at hch
            obtain ⟨X, Y, α, β, rfl, hp, hc, hch2⟩ := hch.step
            rw [hp]
            have hC13 := hC12.same e13
            have hL13 := hL12.same e13
            have hlenW : (X ++ α :: β :: Y).length = X.length + (Y.length + 2) := by simp
            have hX6 : X.length + (Y.length + 2) ≤ 6 := by omega
            have szW : (SX.S (X ++ α :: β :: Y)).length ≤ sizeLine := sz20 (by omega)
            have hR6' := hR6
            refine ⟨_, rfl, _, _, rfl, rfl, _, rfl, ?_⟩
            rw [decide_eq_true (show (0 : Int) ≤ ((X.length : Nat) : Int) by omega)]
            refine iteT ⟨_, rfl, _, rfl, szW, _, _, rfl, rfl, _, _, rfl, rfl, _, rfl, ?_⟩
            rw [SX.S_len, hlenW, decide_eq_true (show ((X.length : Nat) : Int) < (((X.length + (Y.length + 2)) : Nat) : Int) - 1 by omega)]
            refine iteF ?_
            have w1 : Txt.slice (SX.S (X ++ α :: β :: Y)) none (some ((X.length : Nat) : Int)) = SX.S X := SX.to_app X (α :: β :: Y) rfl
            have w2 : Txt.slice (SX.S (X ++ α :: β :: Y)) (some (((X.length : Nat) : Int) + 2)) none = SX.S Y := by
              have e0 : X ++ α :: β :: Y = (X ++ [α, β]) ++ Y := by simp
              rw [e0]
              exact SX.from_app (X ++ [α, β]) Y (by simp)
            have g1 : (X ++ α :: β :: Y)[X.length + 1]? = some β := by
              rw [List.getElem?_append_right (by omega)]
              simp
            have g2 : (X ++ α :: β :: Y)[X.length]? = some α := by
              rw [List.getElem?_append_right (by omega)]
              simp
            refine ⟨_, rfl, _, rfl, _, rfl, _, rfl, szW, ?_⟩
            rw [w1]
            refine ⟨_, rfl, _, rfl, _, _, rfl, rfl, _, _, β, rfl, rfl, szW, (show atI (X ++ α :: β :: Y) (((X.length : Nat) : Int) + 1) = some β from atI_nat g1), _, _, rfl, rfl, ?_, ?_⟩
            · rw [SX.S_len]
              exact Nat.le_of_lt (small1000 (by show X.length + 1 ≤ 1000; omega))
            rw [show (SX.S X ++ (⟨#[β]⟩ : Str)) = SX.S (X ++ [β]) from SX.S_cat X [β]]
            refine ⟨_, rfl, _, rfl, _, _, α, rfl, rfl, szW, atI_nat g2, _, _, rfl, rfl, ?_, ?_⟩
            · rw [SX.S_len]
              exact Nat.le_of_lt (small1000 (by show (X ++ [β]).length + 1 ≤ 1000; rw [List.length_append]; show X.length + 1 + 1 ≤ 1000; omega))
            rw [show (SX.S (X ++ [β]) ++ (⟨#[α]⟩ : Str)) = SX.S ((X ++ [β]) ++ [α]) from SX.S_cat (X ++ [β]) [α]]
            refine ⟨_, rfl, _, rfl, _, _, rfl, rfl, _, rfl, _, rfl, szW, ?_⟩
            rw [w2]
            refine ⟨_, _, rfl, rfl, ?_, ?_⟩
            · rw [SX.S_len, SX.S_len, List.length_append, List.length_append]
              exact Nat.le_of_lt (small1000 (by show X.length + 1 + 1 + Y.length ≤ 1000; omega))
            rw [SX.S_cat, show (X ++ [β]) ++ [α] ++ Y = X ++ β :: α :: Y by simp]
            have hWa' : Mu.after tb (Mu.idm n) (X ++ β :: α :: Y) = Mu.after tb (Mu.idm n) R := by
              rw [← hWa]
              exact (Mu.after_swap _ _ _ hc).symm
            have hWm' : ∀ c ∈ X ++ β :: α :: Y, c ∈ G.map (·.1) := fun c h => hWm c (by
              simp only [List.mem_append, List.mem_cons] at h ⊢
              rcases h with h | h | h | h
              · exact .inl h
              · exact .inr (.inr (.inl h))
              · exact .inr (.inl h)
              · exact .inr (.inr (.inr h)))
            have inS : ∀ {c : Nat}, c ∈ G.map (·.1) → c ∈ S.map (·.1) := fun h => by
              rw [hSk]
              exact inL h
            obtain ⟨nm, hnm, _⟩ := lookL_some (F := C) (c := Mu.after tb (Mu.idm n) R) (by
              rw [hCk]
              exact Mu.due_after hsm fun l hl => List.mem_map_of_mem (inL (hRG l hl)))
            obtain ⟨ldx, st, t0, cdd, io, hlx, _⟩ := id hL13
            refine ⟨_, rfl, lo, ldx, _, rfl, hlx, rfl, _, rfl, lo, n, tb, S, C, X ++ β :: α :: Y, nm, rfl, hL13, sok, fun c h => inS (hWm' c h), by rw [hWa']; exact hnm, fun H15 e15 => ⟨_, rfl, lo, ldx, _, rfl, e15 _ _ hlx, rfl, _, rfl, lo, n, tb, S, C, R, nm, rfl, hL13.same e15, sok, fun c h => inS (hRG c h), hnm, fun H16 e16 => ⟨rfl, _, rfl, iteNS rfl ?_⟩⟩⟩
            have hC16 := (hC13.same e15).same e16
            obtain ⟨cdx, cr, hcx, _⟩ := id hC16
            refine ⟨_, rfl, x, cdx, _, rfl, hcx, rfl, _, rfl, x, cd, n, tb, F, X ++ β :: α :: Y, rfl, hC16, fun c h => inF (hWm' c h), fun H17 t1 e17 nt1 ht1 => ⟨_, rfl, x, cdx, _, rfl, e17 _ _ hcx, rfl, _, rfl, x, cd, n, tb, F, R, rfl, hC16.same e17, hRF, fun H18 t2 e18 nt2 ht2 => ?_⟩⟩
            have ht1' := ht1.same e18
            obtain ⟨d1, u1, c1, p1, p2⟩ := id ht1'
            obtain ⟨d2, u2, c2, p3, p4⟩ := id ht2
            refine ⟨t1, t2, d1, _, d2, _, rfl, rfl, p1, p3, t1, t2, _, _, rfl, ht1', ht2, _, rfl, _, rfl, iteNS hWa' ?_⟩
            exact ⟨X ++ β :: α :: Y, some (nV X.length), rfl, (((e13.trans e15).trans e16).trans e17).trans e18, hch2, hWm', by rw [← hWl]; simp, hWa'⟩
          · rintro σ H13 ⟨W, z11, rfl, e13, hch, hWm, hWl, hWa⟩
            rw [List.length_map, List.drop_length] at hch
            obtain rfl := hch.done
            have hC13 := hC12.same e13
            have hO13 := hO12.same e13
            have hchR := Mu.path_some_chain hlen hq
            refine ⟨_, rfl, _, rfl, rfl, _, rfl, iteNS rfl ⟨_, rfl, _, rfl, _, rfl, x, cd, n, tb, F, R, W, rfl, hC13, hRF, hOF, by omega, by omega, fun hf H14 e14 => ⟨rfl, _, rfl, iteNS rfl ?_⟩, fun ht => ?_⟩⟩
            · have hO14 := hO13.same e14
              refine ⟨_, rfl, _, rfl, _, rfl, d, n, tb, G, R, rfl, hO14, gok, hRG, fun H15 l1 e15 hr1 => ⟨_, rfl, _, rfl, _, rfl, d, n, tb, G, W, rfl, hO14.same e15, gok, hOm, fun H16 l2 e16 hr2 => ?_⟩⟩
              refine ⟨_, _, dpR (hr1.same e16), dpR hr2, shR _, shR _, ?_⟩
              rw [eqvRs, hWa, decide_eq_true rfl]
              exact k _
            · rw [hchR.noclash] at ht
              cases ht
end
end Mz
/-! the head's facts, as the walks ask them -/
namespace Mz
open PySem PySem.Spec PyProof.Rows L2 He C8
theorem spB_ok {K : PySem.W.Frag} {d : XD} {D : Addr} (hc : d.cl = ([("__class__" : Str)] : List Str)) (e : fnC K (d.at_ K) = d.val) (c : spB K (d.at_ K) D d.qual = true) : SupX K d.name d.qual d.st (d.at_ K) D := by
  obtain ⟨kc, c2⟩ := ba c
  unfold fnC at e
  cases q : K.lookup (d.at_ K) with
  | none =>
    rw [q] at c2
    cases c2
  | some o =>
    obtain ⟨oc, od, dt, osl⟩ := o
    rw [q] at c2 e
    cases dt with
    | func fd =>
      obtain ⟨n1, n2, n3, n4, n5, n6, n7, n8, n9, n10, n11, n12, n13, n14, n15⟩ := fd
      have e2 : (some (n1, n2, n3, n4, n5, n6, n7.map (·.1), n15) : FnC) = some (d.name, d.qual, defArgs d.st, .stmts (defBody d.st), defScope d.st, mainGlobals, d.cl, builtinsNs) := e
      simp only [Option.some.injEq, Prod.mk.injEq] at e2
      obtain ⟨h1, h2, h3, h4, h5, h6, h7, h8⟩ := e2
      rw [hc] at h7
      obtain ⟨k1, k2⟩ := ba (show (nonB n8 && (codB K d.qual n13 && cloB K D n7)) = true from c2)
      obtain ⟨k3, k4⟩ := ba k2
      obtain ⟨cda, k5, k6, k7⟩ := codB_ok k3
      obtain ⟨cc, k8, k9⟩ := cloB_ok k4 h7
      have k1 := nonB_ok k1
      subst h1 h2 h3 h4 h5 h6 h8 k1 k5 k8
      exact ⟨_, cda, cc, ⟨oc, od, .none, n9, n10, n11, n12, n14, osl, rfl, q, rfl⟩, k6, k7, k9, kc⟩
    | _ => cases c2
theorem supB_ok {C D m E : Str} {K : PySem.W.Frag} (h : supB C D m E K = true) (ne : (m == ("__class__" : Str)) = false) : SupOf K (ga K C) (ga K D) m (ma K (ga K E) m) := by
  obtain ⟨h1, h⟩ := ba h
  obtain ⟨h2, h⟩ := ba h
  obtain ⟨h3, h⟩ := ba h
  obtain ⟨h4, h5⟩ := ba h
  exact ⟨of_decide_eq_true h1, eqO_ok h2, of_decide_eq_true h3, h4, ne, eqO_ok h5⟩

section
variable {K : PySem.W.Frag} {h : Heap} {mg : Str → Option Value}
theorem tx_of (X : K.In h) (G : h.Ns mainGlobals mg) (c : SaysM faM fnM_ exM xsM K) : Tx K mg where
  g_bits := glo_ok X G (c.d.fact 0 (f := .glo "bits") rfl)
  g_mask_of := glo_ok X G (c.d.fact 1 (f := .glo "mask_of") rfl)
  g_masks_of := glo_ok X G (c.d.fact 2 (f := .glo "masks_of") rfl)
  g_identity_masks := glo_ok X G (c.d.fact 3 (f := .glo "identity_masks") rfl)
  g_image := glo_ok X G (c.d.fact 4 (f := .glo "image") rfl)
  g_product := glo_ok X G (c.d.fact 5 (f := .glo "product") rfl)
  g_commute := glo_ok X G (c.d.fact 6 (f := .glo "commute") rfl)
  g_front_place := glo_ok X G (c.d.fact 7 (f := .glo "front_place") rfl)
  g_swap_path := glo_ok X G (c.d.fact 8 (f := .glo "swap_path") rfl)
  g_only := glo_ok X G (c.d.fact 9 (f := .glo "only") rfl)
  g_swap_clash := glo_ok X G (c.d.fact 10 (f := .glo "swap_clash") rfl)
  g_check_size := glo_ok X G (c.d.fact 11 (f := .glo "check_size") rfl)
  g_check_word := glo_ok X G (c.d.fact 12 (f := .glo "check_word") rfl)
  g_check_sizes := glo_ok X G (c.d.fact 13 (f := .glo "check_sizes") rfl)
  g_table_of_masks := glo_ok X G (c.d.fact 14 (f := .glo "table_of_masks") rfl)
  g_all_words := glo_ok X G (c.d.fact 15 (f := .glo "all_words") rfl)
  g_check_person := glo_ok X G (c.d.fact 16 (f := .glo "check_person") rfl)
  g__law_box := glo_ok X G (c.d.fact 17 (f := .glo "_law_box") rfl)
  g__law_take := glo_ok X G (c.d.fact 18 (f := .glo "_law_take") rfl)
  g__law_letters := glo_ok X G (c.d.fact 19 (f := .glo "_law_letters") rfl)
  g__law_words := glo_ok X G (c.d.fact 20 (f := .glo "_law_words") rfl)
  g__law_outs := glo_ok X G (c.d.fact 21 (f := .glo "_law_outs") rfl)
  g__law_person := glo_ok X G (c.d.fact 22 (f := .glo "_law_person") rfl)
  g__law_calm_folk := glo_ok X G (c.d.fact 23 (f := .glo "_law_calm_folk") rfl)
  g__law_own := glo_ok X G (c.d.fact 24 (f := .glo "_law_own") rfl)
  g__law_cast := glo_ok X G (c.d.fact 25 (f := .glo "_law_cast") rfl)
  g__law_row := glo_ok X G (c.d.fact 26 (f := .glo "_law_row") rfl)
  g__law_same_rows := glo_ok X G (c.d.fact 27 (f := .glo "_law_same_rows") rfl)
  g__law_join := glo_ok X G (c.d.fact 28 (f := .glo "_law_join") rfl)
  g__law_lot := glo_ok X G (c.d.fact 29 (f := .glo "_law_lot") rfl)
  g__law_single := glo_ok X G (c.d.fact 30 (f := .glo "_law_single") rfl)
  g__law_too_many := glo_ok X G (c.d.fact 31 (f := .glo "_law_too_many") rfl)
  g__law_through := glo_ok X G (c.d.fact 32 (f := .glo "_law_through") rfl)
  g_law := glo_ok X G (c.d.fact 33 (f := .glo "law") rfl)
  g__law_made := glo_ok X G (c.d.fact 34 (f := .glo "_law_made") rfl)
  g_Table := glo_ok X G (c.d.fact 35 (f := .glo "Table") rfl)
  g_Person := glo_ok X G (c.d.fact 36 (f := .glo "Person") rfl)
  g_Knower := glo_ok X G (c.d.fact 37 (f := .glo "Knower") rfl)
  g_Doubter := glo_ok X G (c.d.fact 38 (f := .glo "Doubter") rfl)
  g_KnowingDoubter := glo_ok X G (c.d.fact 39 (f := .glo "KnowingDoubter") rfl)
  g_Cast := glo_ok X G (c.d.fact 40 (f := .glo "Cast") rfl)
  g_Lot := glo_ok X G (c.d.fact 41 (f := .glo "Lot") rfl)
  g_BadSize := glo_ok X G (c.d.fact 42 (f := .glo "BadSize") rfl)
  g_BadTable := glo_ok X G (c.d.fact 43 (f := .glo "BadTable") rfl)
  g_UnknownWord := glo_ok X G (c.d.fact 44 (f := .glo "UnknownWord") rfl)
  g_SizeMismatch := glo_ok X G (c.d.fact 45 (f := .glo "SizeMismatch") rfl)
  g_BadCount := glo_ok X G (c.d.fact 46 (f := .glo "BadCount") rfl)
  g_BadPerson := glo_ok X G (c.d.fact 47 (f := .glo "BadPerson") rfl)
  g_BadLetter := glo_ok X G (c.d.fact 48 (f := .glo "BadLetter") rfl)
  g_UnknownPerson := glo_ok X G (c.d.fact 49 (f := .glo "UnknownPerson") rfl)
  g_TooMany := glo_ok X G (c.d.fact 50 (f := .glo "TooMany") rfl)
  g_BadPattern := glo_ok X G (c.d.fact 51 (f := .glo "BadPattern") rfl)
  g_SameWord := glo_ok X G (c.d.fact 52 (f := .glo "SameWord") rfl)
  g_UnknownClue := glo_ok X G (c.d.fact 53 (f := .glo "UnknownClue") rfl)
  g_BadPlace := glo_ok X G (c.d.fact 54 (f := .glo "BadPlace") rfl)
  g_TooLong := glo_ok X G (c.d.fact 55 (f := .glo "TooLong") rfl)
  g_Melted := glo_ok X G (c.d.fact 56 (f := .glo "Melted") rfl)
  g_NothingToUndo := glo_ok X G (c.d.fact 57 (f := .glo "NothingToUndo") rfl)
  g_NothingToRedo := glo_ok X G (c.d.fact 58 (f := .glo "NothingToRedo") rfl)
  g_Refused := glo_ok X G (c.d.fact 59 (f := .glo "Refused") rfl)
  g_BadLine := glo_ok X G (c.d.fact 60 (f := .glo "BadLine") rfl)
  g_MurmurError := glo_ok X G (c.d.fact 61 (f := .glo "MurmurError") rfl)
  z_len := free_ok X G (c.d.fact 62 (f := .free "len") rfl)
  z_range := free_ok X G (c.d.fact 63 (f := .free "range") rfl)
  z_tuple := free_ok X G (c.d.fact 64 (f := .free "tuple") rfl)
  z_list := free_ok X G (c.d.fact 65 (f := .free "list") rfl)
  z_int := free_ok X G (c.d.fact 66 (f := .free "int") rfl)
  z_abs := free_ok X G (c.d.fact 67 (f := .free "abs") rfl)
  z_str := free_ok X G (c.d.fact 68 (f := .free "str") rfl)
  z_sorted := free_ok X G (c.d.fact 69 (f := .free "sorted") rfl)
  z_max := free_ok X G (c.d.fact 70 (f := .free "max") rfl)
  z_enumerate := free_ok X G (c.d.fact 71 (f := .free "enumerate") rfl)
  z_isinstance := free_ok X G (c.d.fact 72 (f := .free "isinstance") rfl)
  z_super := free_ok X G (c.d.fact 73 (f := .free "super") rfl)
  z_ValueError := free_ok X G (c.d.fact 74 (f := .free "ValueError") rfl)
  d_bits := c.d.def_ 0 (d := dd_0) rfl
  d_mask_of := c.d.def_ 1 (d := dd_1) rfl
  d_masks_of := c.d.def_ 2 (d := dd_2) rfl
  d_identity_masks := c.d.def_ 3 (d := dd_3) rfl
  d_image := c.d.def_ 4 (d := dd_4) rfl
  d_product := c.d.def_ 5 (d := dd_5) rfl
  d_commute := c.d.def_ 6 (d := dd_6) rfl
  d_front_place := c.d.def_ 7 (d := dd_7) rfl
  d_swap_path := c.d.def_ 8 (d := dd_8) rfl
  d_only := c.d.def_ 9 (d := dd_9) rfl
  d_swap_clash := c.d.def_ 10 (d := dd_10) rfl
  d_check_size := c.d.def_ 11 (d := dd_11) rfl
  d_check_word := c.d.def_ 12 (d := dd_12) rfl
  d_check_sizes := c.d.def_ 13 (d := dd_13) rfl
  d_table_of_masks := c.d.def_ 14 (d := dd_14) rfl
  d_all_words := c.d.def_ 15 (d := dd_15) rfl
  d_check_person := c.d.def_ 16 (d := dd_16) rfl
  d__law_box := c.d.def_ 17 (d := dd_17) rfl
  d__law_take := c.d.def_ 18 (d := dd_18) rfl
  d__law_letters := c.d.def_ 19 (d := dd_19) rfl
  d__law_words := c.d.def_ 20 (d := dd_20) rfl
  d__law_outs := c.d.def_ 21 (d := dd_21) rfl
  d__law_person := c.d.def_ 22 (d := dd_22) rfl
  d__law_calm_folk := c.d.def_ 23 (d := dd_23) rfl
  d__law_own := c.d.def_ 24 (d := dd_24) rfl
  d__law_cast := c.d.def_ 25 (d := dd_25) rfl
  d__law_row := c.d.def_ 26 (d := dd_26) rfl
  d__law_same_rows := c.d.def_ 27 (d := dd_27) rfl
  d__law_join := c.d.def_ 28 (d := dd_28) rfl
  d__law_lot := c.d.def_ 29 (d := dd_29) rfl
  d__law_single := c.d.def_ 30 (d := dd_30) rfl
  d__law_too_many := c.d.def_ 31 (d := dd_31) rfl
  d__law_through := c.d.def_ 32 (d := dd_32) rfl
  d_law := c.d.def_ 33 (d := dd_33) rfl
  d__law_made := c.d.def_ 34 (d := dd_34) rfl
  m_Table___init__ := c.d.def_ 35 (d := dd_35) rfl
  m_Table___eq__ := c.d.def_ 36 (d := dd_36) rfl
  m_Person___init__ := c.d.def_ 37 (d := dd_37) rfl
  m_Person_heard := c.d.def_ 38 (d := dd_38) rfl
  m_Person_said := c.d.def_ 39 (d := dd_39) rfl
  m_Cast_put := c.d.def_ 40 (d := dd_40) rfl
  m_Cast_check_letters := c.d.def_ 41 (d := dd_41) rfl
  m_Cast_letters := c.d.def_ 42 (d := dd_42) rfl
  m_Cast_row_masks := c.d.def_ 43 (d := dd_43) rfl
  m_Cast_through := c.d.def_ 44 (d := dd_44) rfl
  m_Cast___getitem__ := c.d.def_ 45 (d := dd_45) rfl
  m_Lot_keep := c.d.def_ 46 (d := dd_46) rfl
  m_Lot_masks_after := c.d.def_ 47 (d := dd_47) rfl
  m_Lot_least := c.d.def_ 48 (d := dd_48) rfl
  m_Cast___init__ := c.d.def_ 49 (d := dd_49) rfl
  m_Lot___init__ := c.d.def_ 50 (d := dd_50) rfl
  i_GREATEST_SIZE := int_ok X G (c.d.fact 75 (f := .int "GREATEST_SIZE" 6) rfl)
  i_MOST_PEOPLE := int_ok X G (c.d.fact 76 (f := .int "MOST_PEOPLE" 8) rfl)
  i_LETTERS := str_ok X G (c.d.fact 77 (f := .str "LETTERS" "abcdefghijklmnopqrstuvwxyz") rfl)
  c_Table := cls_ok (c.d.fact 78 (f := .cls "Table") rfl)
  c_Person := cls_ok (c.d.fact 79 (f := .cls "Person") rfl)
  c_Knower := cls_ok (c.d.fact 80 (f := .cls "Knower") rfl)
  c_Doubter := cls_ok (c.d.fact 81 (f := .cls "Doubter") rfl)
  c_KnowingDoubter := cls_ok (c.d.fact 82 (f := .cls "KnowingDoubter") rfl)
  c_Cast := cls_ok (c.d.fact 83 (f := .cls "Cast") rfl)
  c_Lot := cls_ok (c.d.fact 84 (f := .cls "Lot") rfl)
  n_Table_size := noat_ok (c.d.fact 85 (f := .noat "Table" "size") rfl)
  n_Table_masks := noat_ok (c.d.fact 86 (f := .noat "Table" "masks") rfl)
  n_Table_cells := noat_ok (c.d.fact 87 (f := .noat "Table" "cells") rfl)
  n_Person_size := noat_ok (c.d.fact 88 (f := .noat "Person" "size") rfl)
  n_Person_ears := noat_ok (c.d.fact 89 (f := .noat "Person" "ears") rfl)
  n_Person_mouths := noat_ok (c.d.fact 90 (f := .noat "Person" "mouths") rfl)
  n_Person_sure_words := noat_ok (c.d.fact 91 (f := .noat "Person" "sure_words") rfl)
  n_Knower_size := noat_ok (c.d.fact 92 (f := .noat "Knower" "size") rfl)
  n_Knower_ears := noat_ok (c.d.fact 93 (f := .noat "Knower" "ears") rfl)
  n_Knower_mouths := noat_ok (c.d.fact 94 (f := .noat "Knower" "mouths") rfl)
  n_Knower_sure_words := noat_ok (c.d.fact 95 (f := .noat "Knower" "sure_words") rfl)
  n_Doubter_size := noat_ok (c.d.fact 96 (f := .noat "Doubter" "size") rfl)
  n_Doubter_ears := noat_ok (c.d.fact 97 (f := .noat "Doubter" "ears") rfl)
  n_Doubter_mouths := noat_ok (c.d.fact 98 (f := .noat "Doubter" "mouths") rfl)
  n_Doubter_sure_words := noat_ok (c.d.fact 99 (f := .noat "Doubter" "sure_words") rfl)
  n_KnowingDoubter_size := noat_ok (c.d.fact 100 (f := .noat "KnowingDoubter" "size") rfl)
  n_KnowingDoubter_ears := noat_ok (c.d.fact 101 (f := .noat "KnowingDoubter" "ears") rfl)
  n_KnowingDoubter_mouths := noat_ok (c.d.fact 102 (f := .noat "KnowingDoubter" "mouths") rfl)
  n_KnowingDoubter_sure_words := noat_ok (c.d.fact 103 (f := .noat "KnowingDoubter" "sure_words") rfl)
  n_Cast_size := noat_ok (c.d.fact 104 (f := .noat "Cast" "size") rfl)
  n_Cast_folk := noat_ok (c.d.fact 105 (f := .noat "Cast" "folk") rfl)
  n_Cast_roster := noat_ok (c.d.fact 106 (f := .noat "Cast" "roster") rfl)
  n_Lot_steps := noat_ok (c.d.fact 107 (f := .noat "Lot" "steps") rfl)
  n_Lot_start := noat_ok (c.d.fact 108 (f := .noat "Lot" "start") rfl)
  n_Lot_called := noat_ok (c.d.fact 109 (f := .noat "Lot" "called") rfl)
  n_Lot_in_order := noat_ok (c.d.fact 110 (f := .noat "Lot" "in_order") rfl)
  h_Person_heard := meth_ok (c.d.fact 111 (f := .meth "Person" "heard") rfl)
  h_Person_said := meth_ok (c.d.fact 112 (f := .meth "Person" "said") rfl)
  h_Knower_heard := meth_ok (c.d.fact 113 (f := .meth "Knower" "heard") rfl)
  h_Knower_said := meth_ok (c.d.fact 114 (f := .meth "Knower" "said") rfl)
  h_Doubter_heard := meth_ok (c.d.fact 115 (f := .meth "Doubter" "heard") rfl)
  h_Doubter_said := meth_ok (c.d.fact 116 (f := .meth "Doubter" "said") rfl)
  h_KnowingDoubter_heard := meth_ok (c.d.fact 117 (f := .meth "KnowingDoubter" "heard") rfl)
  h_KnowingDoubter_said := meth_ok (c.d.fact 118 (f := .meth "KnowingDoubter" "said") rfl)
  h_Cast_put := meth_ok (c.d.fact 119 (f := .meth "Cast" "put") rfl)
  h_Cast_check_letters := meth_ok (c.d.fact 120 (f := .meth "Cast" "check_letters") rfl)
  h_Cast_letters := meth_ok (c.d.fact 121 (f := .meth "Cast" "letters") rfl)
  h_Cast_row_masks := meth_ok (c.d.fact 122 (f := .meth "Cast" "row_masks") rfl)
  h_Cast_through := meth_ok (c.d.fact 123 (f := .meth "Cast" "through") rfl)
  h_Lot_keep := meth_ok (c.d.fact 124 (f := .meth "Lot" "keep") rfl)
  h_Lot_masks_after := meth_ok (c.d.fact 125 (f := .meth "Lot" "masks_after") rfl)
  h_Lot_least := meth_ok (c.d.fact 126 (f := .meth "Lot" "least") rfl)
  k_Table := mkr_ok (c.d.fact 127 (f := .mkr "Table") rfl)
  k_Person := mkr_ok (c.d.fact 128 (f := .mkr "Person") rfl)
  k_Knower := mkr_ok (c.d.fact 129 (f := .mkr "Knower") rfl)
  k_Doubter := mkr_ok (c.d.fact 130 (f := .mkr "Doubter") rfl)
  k_KnowingDoubter := mkr_ok (c.d.fact 131 (f := .mkr "KnowingDoubter") rfl)
  k_Cast := mkr_ok (c.d.fact 132 (f := .mkr "Cast") rfl)
  k_Lot := mkr_ok (c.d.fact 133 (f := .mkr "Lot") rfl)
  e_heard := fun C hC => by
    simp only [List.map_cons, List.map_nil, List.mem_cons, List.not_mem_nil, or_false] at hC
    rcases hC with rfl | rfl | rfl
    · exact of_decide_eq_true (c.ex 0)
    · exact of_decide_eq_true (c.ex 1)
    · exact of_decide_eq_true (c.ex 2)
  e_Doubter := of_decide_eq_true (c.ex 3)
  e_KnowingDoubter := of_decide_eq_true (c.ex 4)
theorem ty_of (X : K.In h) (G : h.Ns mainGlobals mg) (c : SaysM faM fnM_ exM xsM K) : Ty K mg where
  t := tx_of X G c
  z := (tx_of X G c).z_super
  tab := ⟨pT K, gT K, fun C hC => by
    simp only [List.mem_cons, List.not_mem_nil, or_false] at hC
    rcases hC with rfl | rfl | rfl | rfl
    · exact propB_ok (c.ex 5)
    · exact propB_ok (c.ex 6)
    · exact propB_ok (c.ex 7)
    · exact propB_ok (c.ex 8), plB_ok (d := xd_0) rfl (c.xs 0 (d := xd_0) rfl) (c.ex 9)⟩
  kni := spB_ok (d := xd_1) rfl (c.xs 1 (d := xd_1) rfl) (c.ex 10)
  kns := spB_ok (d := xd_2) rfl (c.xs 2 (d := xd_2) rfl) (c.ex 11)
  dos := spB_ok (d := xd_3) rfl (c.xs 3 (d := xd_3) rfl) (c.ex 12)
  kds := spB_ok (d := xd_4) rfl (c.xs 4 (d := xd_4) rfl) (c.ex 13)
  o_ki := supB_ok (C := "Knower") (D := "Knower") (m := "__init__") (E := "Person") (c.ex 15) (by decide)
  o_di := supB_ok (C := "KnowingDoubter") (D := "Knower") (m := "__init__") (E := "Person") (c.ex 16) (by decide)
  o_ks := supB_ok (C := "Knower") (D := "Knower") (m := "said") (E := "Person") (c.ex 17) (by decide)
  o_ds := supB_ok (C := "Doubter") (D := "Doubter") (m := "said") (E := "Person") (c.ex 18) (by decide)
  o_bs := supB_ok (C := "KnowingDoubter") (D := "KnowingDoubter") (m := "said") (E := "Knower") (c.ex 19) (by decide)
  o_bk := supB_ok (C := "KnowingDoubter") (D := "Knower") (m := "said") (E := "Doubter") (c.ex 20) (by decide)
  o_bd := supB_ok (C := "KnowingDoubter") (D := "Doubter") (m := "said") (E := "Person") (c.ex 21) (by decide)
theorem tz_of (X : K.In h) (G : h.Ns mainGlobals mg) (c : SaysM faM fnM_ exM xsM K) : Tz K mg where
  y := ty_of X G c
  sub := ⟨eqO_ok (c.ex 22), (c.ex 23), (c.ex 24)⟩
  ne := ⟨eqO_ok (c.ex 25), eqO_ok (c.ex 26), (c.ex 27), of_decide_eq_true (c.ex 28)⟩
  ins := ⟨(tx_of X G c).c_Table, eqO_ok (c.ex 29), eqO_ok (ba (c.ex 30)).1, of_decide_eq_true (ba (c.ex 30)).2, of_decide_eq_true (c.ex 28), of_decide_eq_true (c.ex 31)⟩
theorem te_of (X : K.In h) (G : h.Ns mainGlobals mg) (c : SaysM faM fnM_ exM xsM K) : Te K mg where
  z := tz_of X G c
  tmi := spB_ok (d := xd_5) rfl (c.xs 5 (d := xd_5) rfl) (c.ex 14)
  tme := ⟨⟨oxB_ok (c.ex 32), eqO_ok (c.ex 33), of_decide_eq_true (c.ex 34), of_decide_eq_true (c.ex 35), (c.ex 36)⟩, of_decide_eq_true (c.ex 37), eqO_ok (c.ex 38), of_decide_eq_true (c.ex 39), eqO_ok (c.ex 40)⟩
  tml := eqO_ok (c.ex 41)
  tmI := eqO_ok (c.ex 42)
  tmT := of_decide_eq_true (c.ex 43)
theorem th_of (X : K.In h) (G : h.Ns mainGlobals mg) (c : SaysM faM fnM_ exM xsM K) : Th K mg where
  e := te_of X G c
  xc := ⟨eqO_ok (c.ex 44), eqO_ok (c.ex 45), of_decide_eq_true (c.ex 34), (c.ex 46), eqO_ok (c.ex 47), eqO_ok (ba (c.ex 30)).1, of_decide_eq_true (ba (c.ex 30)).2, of_decide_eq_true (c.ex 48)⟩
  xf := ⟨eqO_ok (c.ex 44), eqO_ok (c.ex 45), of_decide_eq_true (c.ex 34), (c.ex 46)⟩
  xm := of_decide_eq_true (c.ex 49)
  no_BadSize := of_decide_eq_true (c.ex 51)
  no_BadTable := of_decide_eq_true (c.ex 52)
  no_UnknownWord := of_decide_eq_true (c.ex 53)
  no_SizeMismatch := of_decide_eq_true (c.ex 54)
  no_BadCount := of_decide_eq_true (c.ex 55)
  no_BadPerson := of_decide_eq_true (c.ex 56)
  no_BadLetter := of_decide_eq_true (c.ex 57)
  no_UnknownPerson := of_decide_eq_true (c.ex 58)
  no_BadPattern := of_decide_eq_true (c.ex 59)
  no_SameWord := of_decide_eq_true (c.ex 60)
  no_UnknownClue := of_decide_eq_true (c.ex 61)
  no_BadPlace := of_decide_eq_true (c.ex 62)
  no_TooLong := of_decide_eq_true (c.ex 63)
  no_Melted := of_decide_eq_true (c.ex 64)
  no_NothingToUndo := of_decide_eq_true (c.ex 65)
  no_NothingToRedo := of_decide_eq_true (c.ex 66)
  no_Refused := of_decide_eq_true (c.ex 67)
  no_BadLine := of_decide_eq_true (c.ex 68)
  ye_TooMany := of_decide_eq_true (c.ex 69)
  ye_MurmurError := of_decide_eq_true (c.ex 70)
  ye_ValueError := of_decide_eq_true (c.ex 50)
end
end Mz
namespace Mz
open PySem PySem.Spec PyProof.Rows L2 He
theorem lawM {P : Program} {w : World} {K : PySem.W.Frag} {h : Heap} {mg : Str → Option Value} {f : Addr} (PF : PFile P fileM) (X : K.In h) (G : h.Ns mainGlobals mg) (hfa : mg ("law" : Str) = some (.ref f)) (c : SaysM faM fnM_ exM xsM K) :
    ∃ fd : FuncData, (∀ (s : Shared) (v : Value), BindsTo s fd ⟨[v], []⟩ [("_law_script", v)]) ∧ ∀ base : Heap, K.In base → base.Ns mainGlobals mg → FnG P w K mg base C8.CX0 11 f fd ["_law_script"] (spLaw K) := by
  have Z := th_of X G c
  have T := Z.e.z.y.t
  obtain ⟨fd, F⟩ := T.d_law
  have e := hfa.symm.trans T.g_law
  cases e
  have b := FunD.bindsA (ps := ["_law_script"]) F fun _ _ _ _ _ _ us hl => match us, hl with | [_], _ => rfl
  exact ⟨fd, fun s v => b s [v] rfl, fun base _ _ => c_law Z PF F⟩
theorem pfileM : PFile (PySem.Challenge.rw_murmurline_k78_whole_swapped_rows_alike).prog fileM := ⟨by kernel_rfl, by kernel_rfl⟩
end Mz
open PySem PySem.W PySem.Calls PyProof.Rows
theorem PySem.Challenge.cw_murmurline_k78_whole_swapped_rows_alike_holds : PySem.Challenge.rw_murmurline_k78_whole_swapped_rows_alike.Holds := by
  w_on; o_law
  refine HandSHeadRun.head_any (r := OpenLaw.row PySem.Challenge.rw_murmurline_k78_whole_swapped_rows_alike) (q := view (OpenLaw.row PySem.Challenge.rw_murmurline_k78_whole_swapped_rows_alike).prog [80]) (H := Mz.hkM) (ob := Mz.obM) (M := 20000) (loose := Mz.namesM) (d := HandSHeadRun.topDef (OpenLaw.row PySem.Challenge.rw_murmurline_k78_whole_swapped_rows_alike).prog 80) (kwd := []) Mz.obM_eq
    (by kernel_rfl) (fun s => by kernel_rfl) Mz.runM (by kernel_rfl) (by kernel_rfl) (by kernel_rfl) (by rfl) (by first | assumption | decide +kernel) (by decide +kernel) ⟨rfl, rfl, rfl, rfl, rfl, by decide +kernel⟩ ?hw ?hc
  case hw => w_witness2
  case hc =>
    refine Mz.walk_ofG (l := PySem.Challenge.rw_murmurline_k78_whole_swapped_rows_alike) (n := 63) (k := 11) (x := "_law_script") (CX := C8.CX0) rfl (by decide) (by kernel_rfl) ⟨rfl, by decide, by decide⟩ ?F (fun _ _ _ _ z => z)
    intro w mg fa h Y G hmg0
    obtain ⟨K, KX, c⟩ := Y
    have hmg : mg ("law" : PySem.Str) = some (.ref fa) := by
      have e : (HandSHeadRun.topDef (OpenLaw.row PySem.Challenge.rw_murmurline_k78_whole_swapped_rows_alike).prog 80).name = ("law" : PySem.Str) := by kernel_rfl
      rw [← e]
      exact hmg0
    obtain ⟨fd, hb, hF⟩ := Mz.lawM (P := (PySem.Challenge.rw_murmurline_k78_whole_swapped_rows_alike).prog) (w := w) Mz.pfileM KX G hmg c
    exact ⟨K, fd, Mz.spLaw K, KX, hb, fun H a ns hl _ hS => ⟨a, ns, rfl, hS, fun _ => rfl⟩, hF⟩
