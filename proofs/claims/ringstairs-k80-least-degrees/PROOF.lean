import PyProof.Rows.All
import Wide.All
import OpenK.AllK
import Wide.FinOn
import HandS.ForMost
import HandS.Zip
import HandS.IsInst
import HandS.Star
import HandS.Gcd
import HandS.Conv
import HandS.TupAny
import HandS.TupMul
import HandS.TupSets
import HandS.SetKeys
import HandS.SortKw
import HandS.DictComp
import HandS.Wide
import HandS.Walk
import HandS.Deep
import KE.GoesMore
import KE.GoesEnum
import HandS.Defaults
import PySem.Challenge.RW_ringstairs_k80_whole_least_degrees_and_c
import PyProof.DictMoreH
import KE.KDictDisplayH
import KE.KDictCopyH
import KE.SortKeyHeap
import HandS.SortOrd
import HandS.NamedTupSort
import KE.KSortAsk
import KE.KStateDown
import HandS.Head0
import HandS.Head1
import HandS.Head2
import HandS.Head3
import HandS.HeadEnd
import HandS.HeadHook1
import HandS.HeadHook2
set_option Elab.async false
set_option linter.all false
set_option maxRecDepth 100000
set_option maxHeartbeats 0
namespace KM
abbrev Rg := Int × Int
abbrev Steps := List (Nat × List Nat)
/-! ### heaps -/
/-- the height of a column -/
def hgt (h : List Int) (c : Nat) : Int := h.getD c 0
structure Heap (h : List Int) : Prop where
  pos : ∀ x ∈ h, 1 ≤ x
  down : ∀ c, hgt h (c + 1) ≤ hgt h c
theorem hgt_nil (c : Nat) : hgt [] c = 0 := by simp [hgt]
theorem hgt_ge (h : List Int) {c : Nat} (e : h.length ≤ c) : hgt h c = 0 := by
  unfold hgt
  rw [List.getD_eq_getElem?_getD, List.getElem?_eq_none_iff.mpr e]
  rfl
theorem hgt_lt (h : List Int) {c : Nat} (e : c < h.length) : hgt h c = h[c] := by
  unfold hgt
  rw [List.getD_eq_getElem?_getD, List.getElem?_eq_getElem e]
  rfl
theorem Heap.nil : Heap [] := ⟨fun _ h => (by cases h), fun c => by rw [hgt_nil, hgt_nil]; exact Int.le_refl _⟩
theorem Heap.one {h : List Int} (H : Heap h) {c : Nat} (e : c < h.length) : 1 ≤ hgt h c := by
  rw [hgt_lt h e]
  exact H.pos _ (List.getElem_mem e)
theorem Heap.nn {h : List Int} (H : Heap h) (c : Nat) : 0 ≤ hgt h c := by
  by_cases e : c < h.length
  · have := H.one e; omega
  · rw [hgt_ge h (by omega)]; exact Int.le_refl _
theorem Heap.anti {h : List Int} (H : Heap h) {a : Nat} : ∀ {b : Nat}, a ≤ b → hgt h b ≤ hgt h a := by
  intro b hb
  induction b with
  | zero =>
    have e : a = 0 := by omega
    rw [e]; exact Int.le_refl _
  | succ b ih =>
    by_cases e : a = b + 1
    · rw [e]; exact Int.le_refl _
    · have h1 := ih (by omega)
      have h2 := H.down b
      omega
theorem Heap.len_iff {h : List Int} (H : Heap h) (c : Nat) : c < h.length ↔ 1 ≤ hgt h c := by
  constructor
  · exact H.one
  · intro e
    by_cases q : c < h.length
    · exact q
    · rw [hgt_ge h (by omega)] at e; omega
theorem heap_ext {h k : List Int} (H : Heap h) (K : Heap k) (e : ∀ c, hgt h c = hgt k c) : h = k := by
  have hl : h.length = k.length := by
    have b1 : ¬ k.length < h.length := fun q => by
      have := H.one q
      rw [e, hgt_ge k (Nat.le_refl _)] at this
      omega
    have b2 : ¬ h.length < k.length := fun q => by
      have := K.one q
      rw [← e, hgt_ge h (Nat.le_refl _)] at this
      omega
    omega
  refine List.ext_getElem hl fun c h1 h2 => ?_
  rw [← hgt_lt h h1, ← hgt_lt k h2, e]

/-! ### lists by a height function -/
/-- n columns of the heights f, those above 0 -/
def ofF (n : Nat) (f : Nat → Int) : List Int := ((List.range n).map f).filter fun x => decide (0 < x)
theorem ofF_all {n : Nat} {f : Nat → Int} (p : ∀ c, c < n → 1 ≤ f c) : ofF n f = (List.range n).map f := by
  unfold ofF
  refine List.filter_eq_self.mpr fun x hx => ?_
  obtain ⟨c, hc, rfl⟩ := List.mem_map.mp hx
  have := p c (List.mem_range.mp hc)
  exact decide_eq_true (by omega)
theorem ofF_succ (n : Nat) (f : Nat → Int) : ofF (n + 1) f = ofF n f ++ (if 0 < f n then [f n] else []) := by
  unfold ofF
  rw [List.range_succ, List.map_append, List.filter_append]
  congr 1
  by_cases e : 0 < f n
  · rw [if_pos e]; simp [e]
  · rw [if_neg e]; simp [e]
/-- a falling function from 0 on: the list has just these heights -/
theorem ofF_spec {f : Nat → Int} (dn : ∀ c, f (c + 1) ≤ f c) (nn : ∀ c, 0 ≤ f c) : ∀ n, (∀ x ∈ ofF n f, 1 ≤ x) ∧ ∀ c, hgt (ofF n f) c = if c < n then f c else 0 := by
  intro n
  refine ⟨fun x hx => ?_, ?_⟩
  · have := of_decide_eq_true (List.mem_filter.mp hx).2
    omega
  · induction n with
    | zero => intro c; rw [show ofF 0 f = [] from rfl, hgt_nil]; simp
    | succ n ih =>
      intro c
      rw [ofF_succ]
      by_cases e : 0 < f n
      · -- all before are positive too
        have all : ∀ c, c < n → 1 ≤ f c := fun c hc => by
          have mono : ∀ d, f (c + d) ≤ f c := fun d => by
            induction d with
            | zero => exact Int.le_refl _
            | succ d ih2 => have := dn (c + d); rw [Nat.add_assoc] at this; omega
          have := mono (n - c)
          rw [show c + (n - c) = n by omega] at this
          omega
        rw [if_pos e, ofF_all all]
        by_cases h1 : c < n
        · rw [hgt_lt _ (by simp; omega), List.getElem_append_left (by simpa using h1)]
          simp [show c < n + 1 by omega]
        · by_cases h2 : c = n
          · subst h2
            rw [hgt_lt _ (by simp), List.getElem_append_right (by simp)]
            simp
          · rw [hgt_ge _ (by simp; omega), if_neg (by omega)]
      · rw [if_neg e, List.append_nil, ih c]
        have z : f n = 0 := by have := nn n; omega
        by_cases h1 : c < n
        · rw [if_pos h1, if_pos (by omega)]
        · by_cases h2 : c = n
          · subst h2
            rw [if_neg h1, if_pos (by omega), z]
          · rw [if_neg h1, if_neg (by omega)]
theorem ofF_heap {f : Nat → Int} (dn : ∀ c, f (c + 1) ≤ f c) (nn : ∀ c, 0 ≤ f c) (n : Nat) : Heap (ofF n f) := by
  obtain ⟨h1, h2⟩ := ofF_spec dn nn n
  refine ⟨h1, fun c => ?_⟩
  rw [h2, h2]
  have := dn c
  have := nn c
  by_cases e : c + 1 < n
  · rw [if_pos e, if_pos (by omega)]; exact dn c
  · rw [if_neg e]
    split
    · exact nn c
    · exact Int.le_refl _

/-! ### growing -/
/-- a square can be added on column c -/
def canAdd (h : List Int) (c : Nat) : Bool := decide (c = 0) || decide (hgt h c < hgt h (c - 1))
/-- ring r with the place x lets a diagonal -/
def lets (r : Rg) (x d : Int) : Bool := decide ((d * r.2 - x) % r.1 = 0)
def rise (h : List Int) (p : Int → Bool) (c : Nat) : Int := hgt h c + if (canAdd h c && p ((c : Int) - hgt h c)) = true then 1 else 0
def growP (h : List Int) (p : Int → Bool) : List Int := ofF (h.length + 1) (rise h p)
def grow (h : List Int) (r : Rg) (x : Int) : List Int := growP h (lets r x)
theorem canAdd_zero (h : List Int) : canAdd h 0 = true := rfl
theorem canAdd_succ {h : List Int} {c : Nat} (e : canAdd h (c + 1) = true) : hgt h (c + 1) < hgt h c := by
  simpa [canAdd] using e
theorem canAdd_of {h : List Int} {c : Nat} (e : hgt h (c + 1) < hgt h c) : canAdd h (c + 1) = true := by
  simpa [canAdd] using e
theorem rise_le (h : List Int) (p : Int → Bool) (c : Nat) : hgt h c ≤ rise h p c := by
  unfold rise; split <;> omega
theorem rise_up (h : List Int) (p : Int → Bool) (c : Nat) : rise h p c ≤ hgt h c + 1 := by
  unfold rise; split <;> omega
theorem rise_down {h : List Int} (H : Heap h) (p : Int → Bool) (c : Nat) : rise h p (c + 1) ≤ rise h p c := by
  have h0 := rise_le h p c
  have h1 := H.down c
  by_cases e : (canAdd h (c + 1) && p (((c + 1 : Nat) : Int) - hgt h (c + 1))) = true
  · have := canAdd_succ (Bool.and_eq_true_iff.mp e).1
    have := rise_up h p (c + 1)
    omega
  · have : rise h p (c + 1) = hgt h (c + 1) := by unfold rise; rw [if_neg e]; omega
    omega
theorem rise_nn {h : List Int} (H : Heap h) (p : Int → Bool) (c : Nat) : 0 ≤ rise h p c := Int.le_trans (H.nn c) (rise_le h p c)
theorem growP_heap {h : List Int} (H : Heap h) (p : Int → Bool) : Heap (growP h p) := ofF_heap (rise_down H p) (rise_nn H p) _
theorem growP_hgt {h : List Int} (H : Heap h) (p : Int → Bool) (c : Nat) : hgt (growP h p) c = rise h p c := by
  unfold growP
  rw [(ofF_spec (rise_down H p) (rise_nn H p) _).2]
  by_cases e : c < h.length + 1
  · rw [if_pos e]
  · rw [if_neg e]
    have e1 : hgt h c = 0 := hgt_ge h (by omega)
    have e2 : hgt h (c - 1) = 0 := hgt_ge h (by omega)
    unfold rise canAdd
    rw [e1, e2, decide_eq_false (by omega : ¬ c = 0)]
    simp
theorem grow_heap {h : List Int} (H : Heap h) (r : Rg) (x : Int) : Heap (grow h r x) := growP_heap H _
/-- more squares ahead, more squares behind -/
theorem rise_mono {h k : List Int} {p : Int → Bool} (c : Nat) (le : ∀ c, hgt h c ≤ hgt k c) : rise h p c ≤ rise k p c := by
  by_cases e : (canAdd h c && p ((c : Int) - hgt h c)) = true
  · by_cases q : hgt h c = hgt k c
    · have e2 : (canAdd k c && p ((c : Int) - hgt k c)) = true := by
        obtain ⟨e1, e2⟩ := Bool.and_eq_true_iff.mp e
        refine Bool.and_eq_true_iff.mpr ⟨?_, by rw [← q]; exact e2⟩
        cases c with
        | zero => rfl
        | succ c =>
          refine canAdd_of ?_
          have := canAdd_succ e1
          have := le c
          omega
      unfold rise
      rw [if_pos e, if_pos e2]
      have := le c
      omega
    · have := le c
      have := rise_up h p c
      have := rise_le k p c
      omega
  · have e1 : rise h p c = hgt h c := by unfold rise; rw [if_neg e]; omega
    have := le c
    have := rise_le k p c
    omega

/-! ### the heap of a tuple -/
def heapFrom (h : List Int) : List Rg → List Int → List Int
  | r :: ch, x :: xs => heapFrom (grow h r x) ch xs
  | _, _ => h
def heapOf (ch : List Rg) (x : List Int) : List Int := heapFrom [] ch x
theorem heapFrom_heap : ∀ (ch : List Rg) (x h : List Int), Heap h → Heap (heapFrom h ch x)
  | [], _, _, H => by unfold heapFrom; exact H
  | _ :: _, [], _, H => by unfold heapFrom; exact H
  | r :: ch, x :: xs, h, H => by unfold heapFrom; exact heapFrom_heap ch xs _ (grow_heap H r x)
theorem heapOf_heap (ch : List Rg) (x : List Int) : Heap (heapOf ch x) := heapFrom_heap ch x [] Heap.nil
theorem heapFrom_snoc : ∀ (ch : List Rg) (x h : List Int) (r : Rg) (p : Int), ch.length = x.length → heapFrom h (ch ++ [r]) (x ++ [p]) = grow (heapFrom h ch x) r p
  | [], [], _, _, _, _ => by simp [heapFrom]
  | _ :: ch, _ :: xs, h, r, p, e => by
    show heapFrom (grow h _ _) (ch ++ [r]) (xs ++ [p]) = _
    rw [heapFrom_snoc ch xs _ r p (by simpa using e)]
    rfl
  | [], _ :: _, _, _, _, e => by simp at e
  | _ :: _, [], _, _, _, e => by simp at e
theorem heapOf_snoc {ch : List Rg} {x : List Int} {r : Rg} {p : Int} (e : ch.length = x.length) : heapOf (ch ++ [r]) (x ++ [p]) = grow (heapOf ch x) r p := heapFrom_snoc ch x [] r p e
/-- the hook bound -/
theorem hook_from : ∀ (ch : List Rg) (x h : List Int) (j : Int), Heap h → 0 ≤ j → (∀ c : Nat, hgt h c ≤ max 0 (j - c)) → ∀ c : Nat, hgt (heapFrom h ch x) c ≤ max 0 (j + ch.length - c)
  | [], _, h, j, H, hj, b, c => by unfold heapFrom; have := b c; simpa using this
  | r :: ch, [], h, j, H, hj, b, c => by
    unfold heapFrom
    have := b c
    have e : ((List.length (r :: ch) : Nat) : Int) = (ch.length : Int) + 1 := by rw [List.length_cons]; omega
    rw [e]
    omega
  | r :: ch, x :: xs, h, j, H, hj, b, c => by
    unfold heapFrom
    have q := hook_from ch xs (grow h r x) (j + 1) (grow_heap H r x) (by omega) (fun c => ?_) c
    · have e : ((List.length (r :: ch) : Nat) : Int) = (ch.length : Int) + 1 := by rw [List.length_cons]; omega
      rw [e]
      rw [show j + 1 + (ch.length : Int) - (c : Int) = j + ((ch.length : Int) + 1) - (c : Int) by omega] at q
      exact q
    · unfold grow
      rw [growP_hgt H]
      cases c with
      | zero =>
        have := b 0
        have := rise_up h (lets r x) 0
        omega
      | succ c =>
        by_cases e : (canAdd h (c + 1) && lets r x (((c + 1 : Nat) : Int) - hgt h (c + 1))) = true
        · have h1 := canAdd_succ (Bool.and_eq_true_iff.mp e).1
          have h2 := b c
          have h3 := rise_up h (lets r x) (c + 1)
          omega
        · have e1 : rise h (lets r x) (c + 1) = hgt h (c + 1) := by unfold rise; rw [if_neg e]; omega
          rw [e1]
          have := b (c + 1)
          omega
theorem hook {ch : List Rg} {x : List Int} (c : Nat) : hgt (heapOf ch x) c ≤ max 0 ((ch.length : Int) - c) := by
  have := hook_from ch x [] 0 Heap.nil (by omega) (fun c => by rw [hgt_nil]; omega) c
  simpa [heapOf] using this
/-- the heap holds T -/
def Held (T h : List Int) : Prop := ∀ c, hgt T c ≤ hgt h c

/-! ### tuples -/
structure RgOk (r : Rg) : Prop where
  two : 2 ≤ r.1
  s1 : 1 ≤ r.2
  s2 : r.2 < r.1
def Tup : List Rg → List Int → Prop
  | [], [] => True
  | r :: ch, p :: x => (0 ≤ p ∧ p < r.1) ∧ Tup ch x
  | _, _ => False
theorem Tup.len : ∀ {ch : List Rg} {x : List Int}, Tup ch x → ch.length = x.length
  | [], [], _ => rfl
  | r :: ch, p :: x, h => by rw [List.length_cons, List.length_cons, Tup.len h.2]
  | [], _ :: _, h => h.elim
  | _ :: _, [], h => h.elim
theorem tup_iff : ∀ {ch : List Rg} {x : List Int}, Tup ch x ↔ ch.length = x.length ∧ ∀ (j : Nat) r p, ch[j]? = some r → x[j]? = some p → 0 ≤ p ∧ p < r.1
  | [], [] => by simp [Tup]
  | r :: ch, p :: x => by
    rw [Tup, tup_iff (ch := ch) (x := x)]
    constructor
    · rintro ⟨h0, hl, h⟩
      refine ⟨by simp [hl], fun j r' p' e1 e2 => ?_⟩
      cases j with
      | zero =>
        have e1 : r = r' := by simpa using e1
        have e2 : p = p' := by simpa using e2
        rw [← e1, ← e2]; exact h0
      | succ j => exact h j r' p' (by simpa using e1) (by simpa using e2)
    · rintro ⟨hl, h⟩
      exact ⟨h 0 r p rfl rfl, by simpa using hl, fun j r' p' e1 e2 => h (j + 1) r' p' (by simpa using e1) (by simpa using e2)⟩
  | [], _ :: _ => by simp [Tup]
  | _ :: _, [] => by simp [Tup]
theorem Tup.snoc : ∀ {ch : List Rg} {x : List Int} {r : Rg} {p : Int}, Tup (ch ++ [r]) (x ++ [p]) ↔ Tup ch x ∧ (0 ≤ p ∧ p < r.1)
  | [], [], r, p => by simp [Tup]
  | r' :: ch, p' :: x, r, p => by
    show (_ ∧ Tup (ch ++ [r]) (x ++ [p])) ↔ (_ ∧ _) ∧ _
    rw [Tup.snoc (ch := ch)]
    exact (and_assoc (a := 0 ≤ p' ∧ p' < r'.1)).symm
  | [], y :: ys, r, p => by
    constructor
    · intro h
      have := h.len
      simp at this
    · intro h; exact h.1.elim
  | _ :: ch, [], r, p => by
    constructor
    · intro h
      have := h.len
      simp at this
    · intro h; exact h.1.elim
def longer (rows : List (List Int)) (n : Int) : List (List Int) := rows.flatMap fun row => (List.range n.toNat).map fun p : Nat => row ++ [(p : Int)]
def allTFrom (rows : List (List Int)) (ch : List Rg) : List (List Int) := ch.foldl (fun rows r => longer rows r.1) rows
def allT (ch : List Rg) : List (List Int) := allTFrom [[]] ch
theorem mem_longer {rows : List (List Int)} {n : Int} {x : List Int} : x ∈ longer rows n ↔ ∃ row ∈ rows, ∃ p : Int, 0 ≤ p ∧ p < n ∧ x = row ++ [p] := by
  unfold longer
  rw [List.mem_flatMap]
  constructor
  · rintro ⟨row, hr, h⟩
    obtain ⟨p, hp, e⟩ := List.mem_map.mp h
    have := List.mem_range.mp hp
    exact ⟨row, hr, p, by omega, by omega, e.symm⟩
  · rintro ⟨row, hr, p, h0, h1, e⟩
    refine ⟨row, hr, List.mem_map.mpr ⟨p.toNat, List.mem_range.mpr (by omega), ?_⟩⟩
    rw [e, Int.toNat_of_nonneg h0]
theorem mem_allTFrom : ∀ (ch done : List Rg) (rows : List (List Int)), (∀ x, x ∈ rows ↔ Tup done x) → ∀ x, x ∈ allTFrom rows ch ↔ Tup (done ++ ch) x
  | [], done, rows, h, x => by rw [List.append_nil]; exact h x
  | r :: ch, done, rows, h, x => by
    have q := mem_allTFrom ch (done ++ [r]) (longer rows r.1) (fun y => ?_) x
    · rw [List.append_assoc] at q
      exact q
    · rw [mem_longer]
      constructor
      · rintro ⟨row, hr, p, h0, h1, rfl⟩
        exact Tup.snoc.mpr ⟨(h row).mp hr, h0, h1⟩
      · intro t
        have hl := t.len
        rw [List.length_append, List.length_singleton] at hl
        have hne : y ≠ [] := fun e => by rw [e] at hl; simp at hl
        have e := List.dropLast_concat_getLast hne
        rw [← e] at t
        obtain ⟨t1, t2, t3⟩ := Tup.snoc.mp t
        exact ⟨_, (h _).mpr t1, _, t2, t3, e.symm⟩
theorem mem_allT {ch : List Rg} {x : List Int} : x ∈ allT ch ↔ Tup ch x := by
  have := mem_allTFrom ch [] [[]] (fun x => ?_) x
  · simpa [allT] using this
  · cases x <;> simp [Tup]
end KM
namespace KM
/-! ### richness, as the law reckons it -/
def okk (h : List Int) (g t : Int) (j : Nat) : Bool := !(decide (0 < g - t + j) && decide (hgt h j < g - t + j)) && !(decide (g - t + j ≤ 0) && decide (t < j))
def richGE (h : List Int) (g t : Int) (k : Nat) : Bool :=
  if 2 * g - 2 < t ∨ t < 0 then decide ((k : Int) ≤ max (-1) (t - g)) else (List.range (k + 1)).all (okk h g t)
def best (ch : List Rg) (k : Nat) : Int :=
  match (List.range (ch.length + k + 1)).find? fun t => (allT ch).any fun x => richGE (heapOf ch x) ch.length (t : Nat) k with
  | some t => t
  | none => ch.length + k
def Has (ch : List Rg) (k : Nat) (r : Int) : Prop := ∃ x, Tup ch x ∧ r ≤ hgt (heapOf ch x) k
structure IsMax (ch : List Rg) (k : Nat) (r : Int) : Prop where
  one : 1 ≤ r
  has : Has ch k r
  top : ∀ r', Has ch k r' → r' ≤ r
theorem okk_iff {h : List Int} {g t : Int} {j : Nat} : okk h g t j = true ↔ (0 < g - t + j → g - t + j ≤ hgt h j) ∧ (g - t + j ≤ 0 → (j : Int) ≤ t) := by
  unfold okk
  rw [Bool.and_eq_true, Bool.not_eq_true', Bool.not_eq_true', Bool.and_eq_false_iff, Bool.and_eq_false_iff, decide_eq_false_iff_not, decide_eq_false_iff_not, decide_eq_false_iff_not, decide_eq_false_iff_not]
  omega
theorem richGE_low {h : List Int} (H : Heap h) {g t : Int} {k : Nat} (h0 : 0 ≤ t) (h1 : t ≤ 2 * g - 2) : richGE h g t k = true ↔ (g - t + k ≤ 0 ∨ g - t + k ≤ hgt h k) := by
  unfold richGE
  rw [if_neg (by omega), List.all_eq_true]
  constructor
  · intro q
    have := okk_iff.mp (q k (List.mem_range.mpr (by omega)))
    omega
  · intro q j hj
    have hj := List.mem_range.mp hj
    refine okk_iff.mpr ⟨fun p => ?_, fun p => by omega⟩
    have := H.anti (show j ≤ k by omega)
    omega
theorem richGE_high {h : List Int} {g t : Int} {k : Nat} (h1 : 2 * g - 2 < t) : richGE h g t k = true ↔ (k : Int) ≤ max (-1) (t - g) := by
  unfold richGE
  rw [if_pos (.inl h1), decide_eq_true_iff]
section
variable {ch : List Rg}
theorem has_bound {k : Nat} {r : Int} (h : Has ch k r) (h1 : 1 ≤ r) : r + k ≤ ch.length := by
  obtain ⟨x, _, q⟩ := h
  have := hook (ch := ch) (x := x) k
  omega
theorem best_some {k t : Nat} (ht : t < ch.length + k + 1) (hp : ∃ x, Tup ch x ∧ richGE (heapOf ch x) ch.length (t : Nat) k = true) (hn : ∀ u : Nat, u < t → ∀ x, Tup ch x → ¬ richGE (heapOf ch x) ch.length (u : Nat) k = true) : best ch k = t := by
  unfold best
  have e : (List.range (ch.length + k + 1)).find? (fun t => (allT ch).any fun x => richGE (heapOf ch x) ch.length (t : Nat) k) = some t := by
    rw [List.find?_range_eq_some]
    obtain ⟨x, hx, q⟩ := hp
    refine ⟨List.any_eq_true.mpr ⟨x, mem_allT.mpr hx, q⟩, List.mem_range.mpr ht, fun u hu => ?_⟩
    rw [Bool.not_eq_true', ← Bool.not_eq_true, List.any_eq_true]
    rintro ⟨x, hx, q⟩
    exact hn u hu x (mem_allT.mp hx) q
  rw [e]
theorem best_great (ok : ∃ x, Tup ch x) (hg : 1 ≤ ch.length) {k : Nat} (hk : ch.length ≤ k) : best ch k = (ch.length : Int) + k := by
  obtain ⟨x, hx⟩ := ok
  have e := best_some (ch := ch) (k := k) (t := ch.length + k) (by omega) ⟨x, hx, (richGE_high (by omega)).mpr (by omega)⟩ (fun u hu y _ => ?_)
  · rw [e]; omega
  · by_cases h : (u : Int) ≤ 2 * (ch.length : Int) - 2
    · rw [richGE_low (heapOf_heap ch y) (by omega) h]
      have := hook (ch := ch) (x := y) k
      omega
    · rw [richGE_high (by omega)]
      omega
theorem best_max {k : Nat} (hk : k < ch.length) {r : Int} (m : IsMax ch k r) : best ch k = (ch.length : Int) + k - r := by
  have hb := has_bound m.has m.one
  have h1 := m.one
  have e := best_some (ch := ch) (k := k) (t := ch.length + k - r.toNat) (by omega) ?_ (fun u hu y hy => ?_)
  · rw [e]; omega
  · obtain ⟨x, hx, q⟩ := m.has
    refine ⟨x, hx, (richGE_low (heapOf_heap ch x) (by omega) (by omega)).mpr ?_⟩
    omega
  · rw [richGE_low (heapOf_heap ch y) (by omega) (by omega)]
    intro q
    have := m.top ((ch.length : Int) - u + k) ⟨y, hy, by omega⟩
    omega
/-- a class of the least degree is judged by its heap -/
theorem rich_best {k : Nat} (hk : k < ch.length) {r : Int} (m : IsMax ch k r) {h : List Int} (H : Heap h) : richGE h ch.length (best ch k) k = true ↔ r ≤ hgt h k := by
  have hb := has_bound m.has m.one
  have h1 := m.one
  rw [best_max hk m, richGE_low H (by omega) (by omega)]
  omega
theorem rich_great (ok : ∃ x, Tup ch x) (hg : 1 ≤ ch.length) {k : Nat} (hk : ch.length ≤ k) (h : List Int) : richGE h ch.length (best ch k) k = true := by
  rw [best_great ok hg hk, richGE_high (by omega)]
  omega
/-- there is a greatest number of rows -/
theorem max_ex {k : Nat} (h1 : Has ch k 1) : ∃ r, IsMax ch k r := by
  have key : ∀ n : Nat, ∀ r : Int, 1 ≤ r → Has ch k r → (ch.length : Int) - r ≤ n → ∃ r, IsMax ch k r := by
    intro n
    induction n with
    | zero =>
      intro r hr hh hn
      refine ⟨r, hr, hh, fun r' h' => ?_⟩
      by_cases q : 1 ≤ r'
      · have := has_bound h' q; omega
      · omega
    | succ n ih =>
      intro r hr hh hn
      by_cases q : Has ch k (r + 1)
      · exact ih (r + 1) (by omega) q (by omega)
      · refine ⟨r, hr, hh, fun r' h' => ?_⟩
        by_cases c : r' ≤ r
        · exact c
        · refine absurd ?_ q
          obtain ⟨x, hx, e⟩ := h'
          exact ⟨x, hx, by omega⟩
  exact key ch.length 1 (Int.le_refl _) h1 (by omega)
theorem max_one {k : Nat} {r r' : Int} (m : IsMax ch k r) (m' : IsMax ch k r') : r = r' := by
  have a := m.top r' m'.has
  have b := m'.top r m.has
  omega
end

/-! ### a row and a column always stand -/
theorem lets_self {r : Rg} (ok : RgOk r) (d : Int) : lets r (d * r.2 % r.1) d = true := by
  unfold lets
  refine decide_eq_true ?_
  have h := Int.emod_emod_of_dvd (d * r.2) (Int.dvd_refl r.1)
  rw [Int.sub_emod, h, Int.sub_self, Int.zero_emod]
/-- the tuple whose ring j lets the diagonal f j -/
def byDiag (f : Nat → Int) : Nat → List Rg → List Int
  | _, [] => []
  | j, r :: ch => (f j * r.2 % r.1) :: byDiag f (j + 1) ch
theorem byDiag_tup (f : Nat → Int) : ∀ (ch : List Rg) (j : Nat), (∀ r ∈ ch, RgOk r) → Tup ch (byDiag f j ch)
  | [], _, _ => trivial
  | r :: ch, j, ok => by
    have o := ok r List.mem_cons_self
    have := o.two
    exact ⟨⟨Int.emod_nonneg _ (by omega), Int.emod_lt_of_pos _ (by omega)⟩, byDiag_tup f ch (j + 1) fun r' h => ok r' (List.mem_cons_of_mem _ h)⟩
theorem heapFrom_keeps : ∀ (ch : List Rg) (x h : List Int), Heap h → ∀ c, hgt h c ≤ hgt (heapFrom h ch x) c
  | [], _, _, _, c => by unfold heapFrom; exact Int.le_refl _
  | _ :: _, [], _, _, c => by unfold heapFrom; exact Int.le_refl _
  | r :: ch, x :: xs, h, H, c => by
    unfold heapFrom
    refine Int.le_trans ?_ (heapFrom_keeps ch xs _ (grow_heap H r x) c)
    unfold grow
    rw [growP_hgt H]
    exact rise_le h _ c
theorem row_from : ∀ (ch : List Rg) (j : Nat) (h : List Int), (∀ r ∈ ch, RgOk r) → Heap h → (∀ c, c < j → 1 ≤ hgt h c) → ∀ c, c < j + ch.length → 1 ≤ hgt (heapFrom h ch (byDiag (fun i => (i : Int)) j ch)) c
  | [], j, h, _, _, b, c, hc => by unfold heapFrom; exact b c (by simpa using hc)
  | r :: ch, j, h, ok, H, b, c, hc => by
    unfold byDiag heapFrom
    refine row_from ch (j + 1) _ (fun r' h' => ok r' (List.mem_cons_of_mem _ h')) (grow_heap H _ _) (fun d hd => ?_) c (by rw [List.length_cons] at hc; omega)
    unfold grow
    rw [growP_hgt H]
    by_cases e : 1 ≤ hgt h d
    · have := rise_le h (lets r ((j : Int) * r.2 % r.1)) d
      omega
    · have hdj : d = j := by
        by_cases q : d < j
        · exact absurd (b d q) e
        · omega
      subst hdj
      have z : hgt h d = 0 := by have := H.nn d; omega
      have ca : canAdd h d = true := by
        cases d with
        | zero => rfl
        | succ d => exact canAdd_of (by have := b d (by omega); omega)
      unfold rise
      rw [z, ca, Int.sub_zero, lets_self (ok r List.mem_cons_self)]
      simp
theorem has_one {ch : List Rg} (ok : ∀ r ∈ ch, RgOk r) {k : Nat} (hk : k < ch.length) : Has ch k 1 :=
  ⟨byDiag (fun i => (i : Int)) 0 ch, byDiag_tup _ ch 0 ok, row_from ch 0 [] ok Heap.nil (fun c hc => by omega) k (by omega)⟩
theorem col_from : ∀ (ch : List Rg) (j : Nat) (h : List Int), (∀ r ∈ ch, RgOk r) → Heap h → (j : Int) ≤ hgt h 0 → (j : Int) + ch.length ≤ hgt (heapFrom h ch (byDiag (fun i => -(i : Int)) j ch)) 0
  | [], j, h, _, _, b => by unfold heapFrom; simpa using b
  | r :: ch, j, h, ok, H, b => by
    unfold byDiag heapFrom
    have q := col_from ch (j + 1) (grow h r (-(j : Int) * r.2 % r.1)) (fun r' h' => ok r' (List.mem_cons_of_mem _ h')) (grow_heap H _ _) ?_
    · rw [List.length_cons]
      refine Int.le_trans ?_ q
      omega
    · unfold grow
      rw [growP_hgt H]
      by_cases e : (j : Int) + 1 ≤ hgt h 0
      · have := rise_le h (lets r (-(j : Int) * r.2 % r.1)) 0
        omega
      · have z : hgt h 0 = j := by omega
        unfold rise
        rw [z, canAdd_zero, show ((0 : Nat) : Int) - (j : Int) = -(j : Int) by omega, lets_self (ok r List.mem_cons_self)]
        simp
theorem max_zero {ch : List Rg} (ok : ∀ r ∈ ch, RgOk r) (hg : 1 ≤ ch.length) : IsMax ch 0 ch.length := by
  refine ⟨by omega, ⟨byDiag (fun i => -(i : Int)) 0 ch, byDiag_tup _ ch 0 ok, ?_⟩, fun r' h => ?_⟩
  · have := col_from ch 0 [] ok Heap.nil (by rw [hgt_nil]; decide)
    simpa [heapOf] using this
  · by_cases q : 1 ≤ r'
    · have := has_bound h q; omega
    · omega

/-! ### what the law asks of the least degrees -/
section
variable {ch : List Rg} (ok : ∀ r ∈ ch, RgOk r) (hg : 1 ≤ ch.length)
include ok hg
theorem some_tup : ∃ x, Tup ch x := ⟨_, byDiag_tup (fun _ => 0) ch 0 ok⟩
theorem best_zero : best ch 0 = 0 := by
  rw [best_max (by omega) (max_zero ok hg)]
  omega
theorem best_len : best ch ch.length = 2 * (ch.length : Int) := by
  rw [best_great (some_tup ok hg) hg (Nat.le_refl _)]
  omega
theorem best_last : best ch (ch.length - 1) = 2 * (ch.length : Int) - 2 := by
  have m : IsMax ch (ch.length - 1) 1 := ⟨Int.le_refl _, has_one ok (by omega), fun r' h => by
    by_cases q : 1 ≤ r'
    · have := has_bound h q; omega
    · omega⟩
  rw [best_max (by omega) m]
  omega
theorem best_step {k : Nat} (hk : k < ch.length) : best ch k < best ch (k + 1) := by
  obtain ⟨r, m⟩ := max_ex (has_one ok hk)
  rw [best_max hk m]
  have h1 := m.one
  by_cases e : k + 1 < ch.length
  · obtain ⟨r', m'⟩ := max_ex (has_one ok e)
    rw [best_max e m']
    obtain ⟨x, hx, q⟩ := m'.has
    have := (heapOf_heap ch x).down k
    have := m.top r' ⟨x, hx, by omega⟩
    omega
  · rw [best_great (some_tup ok hg) hg (by omega)]
    omega
end
end KM
namespace KM
/-! ### boxes, holding -/
theorem hgt_rep (n : Nat) (r : Int) (c : Nat) : hgt (List.replicate n r) c = if c < n then r else 0 := by
  by_cases e : c < n
  · rw [if_pos e, hgt_lt _ (by simpa using e)]
    simp
  · rw [if_neg e, hgt_ge _ (by simpa using (by omega : n ≤ c))]
theorem rep_heap (n : Nat) {r : Int} (h : 1 ≤ r) : Heap (List.replicate n r) := by
  refine ⟨fun x hx => by rw [(List.mem_replicate.mp hx).2]; exact h, fun c => ?_⟩
  rw [hgt_rep, hgt_rep]
  split <;> split <;> omega
theorem held_rep {h : List Int} (H : Heap h) (k : Nat) {r : Int} (h1 : 1 ≤ r) : Held (List.replicate (k + 1) r) h ↔ r ≤ hgt h k := by
  constructor
  · intro q
    have := q k
    rw [hgt_rep, if_pos (by omega)] at this
    exact this
  · intro q c
    rw [hgt_rep]
    split
    · have := H.anti (show c ≤ k by omega)
      omega
    · exact H.nn c
def holdsB (h o : List Int) : Bool := decide (o.length ≤ h.length) && (h.zip o).all fun p => decide (p.2 ≤ p.1)
theorem holdsB_iff {h o : List Int} (H : Heap h) (O : Heap o) : holdsB h o = true ↔ Held o h := by
  unfold holdsB
  rw [Bool.and_eq_true, decide_eq_true_iff, List.all_eq_true]
  constructor
  · rintro ⟨hl, q⟩ c
    by_cases e : c < o.length
    · have e2 : c < h.length := by omega
      have m : (h[c], o[c]) ∈ h.zip o := by
        have : (h.zip o)[c]'(by simp; omega) = (h[c], o[c]) := by simp
        rw [← this]
        exact List.getElem_mem _
      have := of_decide_eq_true (q _ m)
      rw [hgt_lt o e, hgt_lt h e2]
      exact this
    · rw [hgt_ge o (by omega)]
      exact H.nn c
  · intro q
    have hl : o.length ≤ h.length := by
      by_cases e : h.length < o.length
      · have a := O.one e
        have b := q h.length
        rw [hgt_ge h (Nat.le_refl _)] at b
        omega
      · omega
    refine ⟨hl, fun p hp => ?_⟩
    obtain ⟨c, hc, rfl⟩ := List.getElem_of_mem hp
    have hc' : c < h.length ∧ c < o.length := by rw [List.length_zip] at hc; omega
    rw [List.getElem_zip]
    have := q c
    rw [hgt_lt o hc'.2, hgt_lt h hc'.1] at this
    exact decide_eq_true this
theorem Held.refl (h : List Int) : Held h h := fun _ => Int.le_refl _
theorem Held.trans {a b c : List Int} (x : Held a b) (y : Held b c) : Held a c := fun i => Int.le_trans (x i) (y i)

/-! ### classes of squares -/
def freeCols (T p : List Int) : List Nat := ((List.range (p.length + 1)).reverse.filter (canAdd p)).filter fun c => decide (c < T.length) && decide (hgt p c < hgt T c)
def cls (T p : List Int) (m r : Int) : List Nat := (freeCols T p).filter fun c => decide (((c : Int) - hgt p c) % m = r)
def withCols (T p : List Int) (cols : List Nat) : List Int := ofF T.length fun c => hgt p c + if c ∈ cols then 1 else 0
def ord (r : Rg) : Int := r.1 / (Int.gcd r.1 r.2 : Int)
theorem mem_free {T p : List Int} (P : Heap p) {c : Nat} : c ∈ freeCols T p ↔ canAdd p c = true ∧ hgt p c < hgt T c ∧ c < T.length := by
  unfold freeCols
  rw [List.mem_filter, List.mem_filter, List.mem_reverse, List.mem_range, Bool.and_eq_true, decide_eq_true_iff, decide_eq_true_iff]
  constructor
  · rintro ⟨⟨a, b⟩, c, d⟩; exact ⟨b, d, c⟩
  · rintro ⟨b, d, e⟩
    refine ⟨⟨?_, b⟩, e, d⟩
    cases c with
    | zero => omega
    | succ c =>
      have := canAdd_succ b
      have := P.nn (c + 1)
      have := (P.len_iff c).mpr (by omega)
      omega
theorem mem_cls {T p : List Int} (P : Heap p) {m r : Int} {c : Nat} : c ∈ cls T p m r ↔ (canAdd p c = true ∧ hgt p c < hgt T c ∧ c < T.length) ∧ ((c : Int) - hgt p c) % m = r := by
  unfold cls
  rw [List.mem_filter, mem_free P, decide_eq_true_iff]
theorem free_nodup (T p : List Int) : (freeCols T p).Nodup := by
  refine List.Nodup.sublist List.filter_sublist (List.Nodup.sublist List.filter_sublist ?_)
  exact (List.reverse_perm _).nodup_iff.mpr List.nodup_range
theorem cls_nodup (T p : List Int) (m r : Int) : (cls T p m r).Nodup := List.Nodup.sublist List.filter_sublist (free_nodup T p)
theorem with_spec {T p : List Int} (P : Heap p) (TH : Heap T) (le : Held p T) {cols : List Nat} (hc : ∀ c ∈ cols, canAdd p c = true ∧ hgt p c < hgt T c ∧ c < T.length) :
    Heap (withCols T p cols) ∧ ∀ c, hgt (withCols T p cols) c = hgt p c + if c ∈ cols then 1 else 0 := by
  have dn : ∀ c, (hgt p (c + 1) + if c + 1 ∈ cols then 1 else 0) ≤ hgt p c + if c ∈ cols then 1 else 0 := fun c => by
    have a := P.down c
    by_cases e : c + 1 ∈ cols
    · have := canAdd_succ (hc _ e).1
      rw [if_pos e]
      split <;> omega
    · rw [if_neg e]
      split <;> omega
  have nn : ∀ c, 0 ≤ hgt p c + if c ∈ cols then 1 else 0 := fun c => by
    have a := P.nn c
    split <;> omega
  refine ⟨ofF_heap (f := fun c => hgt p c + if c ∈ cols then 1 else 0) dn nn _, fun c => ?_⟩
  unfold withCols
  rw [(ofF_spec (f := fun c => hgt p c + if c ∈ cols then 1 else 0) dn nn _).2]
  by_cases e : c < T.length
  · rw [if_pos e]
  · rw [if_neg e]
    have z : hgt p c = 0 := by
      have a := le c
      rw [hgt_ge T (by omega)] at a
      have := P.nn c
      omega
    have n : c ∉ cols := fun q => e (hc c q).2.2
    rw [z, if_neg n]
    rfl
theorem with_held {T p : List Int} (P : Heap p) (TH : Heap T) (le : Held p T) {cols : List Nat} (hc : ∀ c ∈ cols, canAdd p c = true ∧ hgt p c < hgt T c ∧ c < T.length) : Held (withCols T p cols) T := fun c => by
  rw [(with_spec P TH le hc).2]
  have := le c
  by_cases e : c ∈ cols
  · have := (hc c e).2.1
    rw [if_pos e]; omega
  · rw [if_neg e]; omega
theorem cls_ok {T p : List Int} (P : Heap p) {m r : Int} : ∀ c ∈ cls T p m r, canAdd p c = true ∧ hgt p c < hgt T c ∧ c < T.length := fun c h => ((mem_cls P).mp h).1

/-! ### orders -/
theorem ord_dvd {r : Rg} (ok : RgOk r) {d e : Int} (h : d % ord r = e % ord r) : d * r.2 % r.1 = e * r.2 % r.1 := by
  have hg : (Int.gcd r.1 r.2 : Int) ∣ r.1 := Int.gcd_dvd_left ..
  have hs : (Int.gcd r.1 r.2 : Int) ∣ r.2 := Int.gcd_dvd_right ..
  have h1 : ord r ∣ d - e := Int.dvd_of_emod_eq_zero (Int.emod_eq_emod_iff_emod_sub_eq_zero.mp h)
  have e1 : r.1 = ord r * (Int.gcd r.1 r.2 : Int) := (Int.ediv_mul_cancel hg).symm
  have : r.1 ∣ (d - e) * r.2 := by
    obtain ⟨a, ha⟩ := h1
    obtain ⟨b, hb⟩ := hs
    refine ⟨a * b, ?_⟩
    calc (d - e) * r.2 = (ord r * a) * ((Int.gcd r.1 r.2 : Int) * b) := by rw [ha, ← hb]
      _ = (ord r * (Int.gcd r.1 r.2 : Int)) * (a * b) := by
        rw [Int.mul_assoc, Int.mul_assoc, Int.mul_left_comm a]
      _ = r.1 * (a * b) := by rw [← e1]
  rw [Int.sub_mul] at this
  exact Int.emod_eq_emod_iff_emod_sub_eq_zero.mpr (Int.emod_eq_zero_of_dvd this)
theorem ord_of {r : Rg} (ok : RgOk r) {d e : Int} (h : d * r.2 % r.1 = e * r.2 % r.1) : d % ord r = e % ord r := by
  have hg : (Int.gcd r.1 r.2 : Int) ∣ r.1 := Int.gcd_dvd_left ..
  have hs : (Int.gcd r.1 r.2 : Int) ∣ r.2 := Int.gcd_dvd_right ..
  have h2 := ok.two
  have gp : 0 < Int.gcd r.1 r.2 := Int.gcd_pos_of_ne_zero_left _ (by omega)
  have cop := Int.gcd_ediv_gcd_ediv_gcd gp
  have e1 : r.1 = ord r * (Int.gcd r.1 r.2 : Int) := (Int.ediv_mul_cancel hg).symm
  have e2 : r.2 = (r.2 / (Int.gcd r.1 r.2 : Int)) * (Int.gcd r.1 r.2 : Int) := (Int.ediv_mul_cancel hs).symm
  have dv : r.1 ∣ (d - e) * r.2 := by
    rw [Int.sub_mul]
    exact Int.dvd_of_emod_eq_zero (Int.emod_eq_emod_iff_emod_sub_eq_zero.mp h)
  have dv2 : ord r * (Int.gcd r.1 r.2 : Int) ∣ ((d - e) * (r.2 / (Int.gcd r.1 r.2 : Int))) * (Int.gcd r.1 r.2 : Int) := by
    rw [← e1, Int.mul_assoc, ← e2]
    exact dv
  have dv3 : ord r ∣ (d - e) * (r.2 / (Int.gcd r.1 r.2 : Int)) := Int.dvd_of_mul_dvd_mul_right (by omega) dv2
  have dv4 : ord r ∣ d - e := by
    rw [← Int.natAbs_dvd_natAbs] at dv3 ⊢
    rw [Int.natAbs_mul] at dv3
    exact Nat.Coprime.dvd_of_dvd_mul_right (n := (r.2 / (Int.gcd r.1 r.2 : Int)).natAbs) cop dv3
  exact Int.emod_eq_emod_iff_emod_sub_eq_zero.mpr (Int.emod_eq_zero_of_dvd dv4)
theorem lets_iff {r : Rg} {x d : Int} (h0 : 0 ≤ x) (h1 : x < r.1) : lets r x d = true ↔ d * r.2 % r.1 = x := by
  unfold lets
  rw [decide_eq_true_iff, ← Int.emod_eq_emod_iff_emod_sub_eq_zero, Int.emod_eq_of_lt h0 h1]
/-- a ring with a place lets nothing, or the diagonals of one rest -/
theorem lets_rest {r : Rg} (ok : RgOk r) (x : Int) : (∀ d, lets r x d = false) ∨ ∃ q, ∀ d, lets r x d = decide (d % ord r = q) := by
  by_cases h : ∃ d, lets r x d = true
  · obtain ⟨e, he⟩ := h
    refine .inr ⟨e % ord r, fun d => ?_⟩
    have key : lets r x d = true ↔ d * r.2 % r.1 = e * r.2 % r.1 := by
      unfold lets at he ⊢
      rw [decide_eq_true_iff] at he ⊢
      rw [← Int.emod_eq_emod_iff_emod_sub_eq_zero] at he ⊢
      rw [he]
    by_cases q : d % ord r = e % ord r
    · rw [decide_eq_true q]
      exact key.mpr (ord_dvd ok q)
    · rw [decide_eq_false q]
      cases c : lets r x d with
      | false => rfl
      | true => exact absurd (ord_of ok (key.mp c)) q
  · refine .inl fun d => ?_
    cases c : lets r x d with
    | false => rfl
    | true => exact absurd ⟨d, c⟩ h

/-! ### the search, ring by ring -/
abbrev Row := List (List Int × Steps)
inductive Grown (ch : List Rg) (T : List Int) : Nat → List Int → Steps → Prop
  | nil : Grown ch T 0 [] []
  | skip {j p st} (g : Grown ch T j p st) : Grown ch T (j + 1) p st
  | step {j p st rg} (r : Int) (e : ch[j]? = some rg) (g : Grown ch T j p st) : Grown ch T (j + 1) (withCols T p (cls T p (ord rg) r)) (st ++ [(j, cls T p (ord rg) r)])
theorem Grown.heap {ch : List Rg} {T : List Int} (TH : Heap T) {j : Nat} {p : List Int} {st : Steps} (g : Grown ch T j p st) : Heap p ∧ Held p T := by
  induction g with
  | nil => exact ⟨Heap.nil, fun c => by rw [hgt_nil]; exact TH.nn c⟩
  | skip _ ih => exact ih
  | step r e _ ih => exact ⟨(with_spec ih.1 TH ih.2 (cls_ok ih.1)).1, with_held ih.1 TH ih.2 (cls_ok ih.1)⟩
structure RowOk (ch : List Rg) (T : List Int) (j : Nat) (row : Row) : Prop where
  sound : ∀ kv ∈ row, Grown ch T j kv.1 kv.2
  whole : ∀ x : List Int, x.length = j → ∃ kv ∈ row, ∀ c, min (hgt (heapOf (ch.take j) x) c) (hgt T c) ≤ hgt kv.1 c
theorem row_zero (ch : List Rg) {T : List Int} (TH : Heap T) : RowOk ch T 0 [([], [])] := by
  refine ⟨fun kv h => ?_, fun x hx => ⟨_, List.mem_singleton.mpr rfl, fun c => ?_⟩⟩
  · rw [List.mem_singleton.mp h]
    exact .nil
  · rw [List.eq_nil_of_length_eq_zero hx, List.take_zero, show heapOf [] [] = [] from rfl, hgt_nil]
    omega
def NextOf (T : List Int) (m : Int) (j : Nat) (src kv : List Int × Steps) : Prop := ∃ r, kv = (withCols T src.1 (cls T src.1 m r), src.2 ++ [(j, cls T src.1 m r)])
structure LaterOk (T : List Int) (m : Int) (j : Nat) (row L : Row) : Prop where
  from_ : ∀ kv ∈ L, kv ∈ row ∨ ∃ src ∈ row, NextOf T m j src kv
  keep : ∀ kv ∈ row, kv.1 ∈ L.map (·.1)
  all : ∀ src ∈ row, ∀ r, cls T src.1 m r ≠ [] → withCols T src.1 (cls T src.1 m r) ∈ L.map (·.1)
theorem with_nil {T p : List Int} (P : Heap p) (TH : Heap T) (le : Held p T) : withCols T p [] = p := by
  have h : ∀ c ∈ ([] : List Nat), canAdd p c = true ∧ hgt p c < hgt T c ∧ c < T.length := fun c h => (by cases h)
  obtain ⟨h1, h2⟩ := with_spec P TH le h
  exact heap_ext h1 P fun c => by rw [h2]; simp
theorem row_next {ch : List Rg} {T : List Int} (TH : Heap T) (ok : ∀ r ∈ ch, RgOk r) {j : Nat} {rg : Rg} (hj : ch[j]? = some rg) {row L row' : Row} (R : RowOk ch T j row) (l : LaterOk T (ord rg) j row L)
    (h1 : ∀ kv ∈ row', kv ∈ L) (h2 : ∀ p ∈ L.map (·.1), ∃ kv ∈ row', Held p kv.1) : RowOk ch T (j + 1) row' := by
  have hjl : j < ch.length := (List.getElem?_eq_some_iff.mp hj).1
  have tk : ch.take (j + 1) = ch.take j ++ [rg] := by rw [List.take_succ, hj]; rfl
  refine ⟨fun kv h => ?_, fun x hx => ?_⟩
  · rcases l.from_ kv (h1 kv h) with q | ⟨src, hs, r, rfl⟩
    · exact .skip (R.sound kv q)
    · exact .step r hj (R.sound src hs)
  · have hne : x ≠ [] := fun e => by rw [e] at hx; simp at hx
    obtain ⟨y, p, rfl⟩ : ∃ y p, x = y ++ [p] := ⟨_, _, (List.dropLast_concat_getLast hne).symm⟩
    have hy : y.length = j := by simpa using hx
    have hl : (ch.take j).length = y.length := by rw [List.length_take]; omega
    rw [tk, heapOf_snoc hl]
    obtain ⟨src, hs, hP⟩ := R.whole y hy
    obtain ⟨PH, PT⟩ := (R.sound src hs).heap TH
    have HH := heapOf_heap (ch.take j) y
    -- the part behind the ring, within T
    suffices hk : ∃ q ∈ L.map (·.1), ∀ c, min (hgt (grow (heapOf (ch.take j) y) rg p) c) (hgt T c) ≤ hgt q c by
      obtain ⟨q, hq, hb⟩ := hk
      obtain ⟨kv, hkv, hh⟩ := h2 q hq
      exact ⟨kv, hkv, fun c => Int.le_trans (hb c) (hh c)⟩
    have stay : (∀ d, lets rg p d = false) → ∃ q ∈ L.map (·.1), ∀ c, min (hgt (grow (heapOf (ch.take j) y) rg p) c) (hgt T c) ≤ hgt q c := fun no => by
      refine ⟨src.1, l.keep src hs, fun c => ?_⟩
      have e : hgt (grow (heapOf (ch.take j) y) rg p) c = hgt (heapOf (ch.take j) y) c := by
        unfold grow
        rw [growP_hgt HH]
        unfold rise
        rw [no]
        simp
      rw [e]
      exact hP c
    rcases lets_rest (ok rg (List.mem_of_getElem? hj)) p with no | ⟨r, hr⟩
    · exact stay no
    · have sp := with_spec PH TH PT (cls_ok PH (m := ord rg) (r := r))
      refine ⟨withCols T src.1 (cls T src.1 (ord rg) r), ?_, fun c => ?_⟩
      · by_cases e : cls T src.1 (ord rg) r = []
        · rw [e, with_nil PH TH PT]
          exact l.keep src hs
        · exact l.all src hs r e
      · rw [sp.2]
        unfold grow
        rw [growP_hgt HH]
        have hPc := hP c
        have up := rise_up (heapOf (ch.take j) y) (lets rg p) c
        by_cases a : hgt (heapOf (ch.take j) y) c < hgt T c
        · by_cases b : hgt src.1 c = hgt (heapOf (ch.take j) y) c
          · by_cases e : (canAdd (heapOf (ch.take j) y) c && lets rg p ((c : Int) - hgt (heapOf (ch.take j) y) c)) = true
            · obtain ⟨e1, e2⟩ := Bool.and_eq_true_iff.mp e
              have ca : canAdd src.1 c = true := by
                cases c with
                | zero => rfl
                | succ d =>
                  refine canAdd_of ?_
                  have := canAdd_succ e1
                  have := hP d
                  have := TH.down d
                  omega
              have hlt : c < T.length := (TH.len_iff c).mpr (by have := PH.nn c; omega)
              have mem : c ∈ cls T src.1 (ord rg) r := (mem_cls PH).mpr ⟨⟨ca, by omega, hlt⟩, by rw [hr] at e2; rw [b]; exact of_decide_eq_true e2⟩
              rw [if_pos mem]
              omega
            · have e1 : rise (heapOf (ch.take j) y) (lets rg p) c = hgt (heapOf (ch.take j) y) c := by unfold rise; rw [if_neg e]; omega
              rw [e1]
              split <;> omega
          · have : hgt (heapOf (ch.take j) y) c < hgt src.1 c := by omega
            split <;> omega
        · have := rise_le (heapOf (ch.take j) y) (lets rg p) c
          split <;> omega

/-! ### fillings -/
/-- the letters of a column, from below -/
def col (st : Steps) (c : Nat) : List Nat := (st.filter fun s => decide (c ∈ s.2)).map (·.1)
theorem col_snoc (st : Steps) (s : Nat × List Nat) (c : Nat) : col (st ++ [s]) c = col st c ++ if c ∈ s.2 then [s.1] else [] := by
  unfold col
  rw [List.filter_append, List.map_append]
  by_cases e : c ∈ s.2
  · rw [if_pos e]; simp [e]
  · rw [if_neg e]; simp [e]
theorem Grown.col_len {ch : List Rg} {T : List Int} (TH : Heap T) {j : Nat} {p : List Int} {st : Steps} (g : Grown ch T j p st) (c : Nat) : ((col st c).length : Int) = hgt p c := by
  induction g with
  | nil => rw [hgt_nil]; rfl
  | skip _ ih => exact ih
  | step r e g ih =>
    obtain ⟨PH, PT⟩ := g.heap TH
    rw [col_snoc, (with_spec PH TH PT (cls_ok PH)).2, List.length_append, ← ih]
    split <;> simp
/-- what a letter says of the place of its ring -/
def Says (ch : List Rg) (i : Nat) (d v : Int) : Prop := ∃ rg, ch[i]? = some rg ∧ v = d * rg.2 % rg.1
theorem Grown.cons {ch : List Rg} {T : List Int} (TH : Heap T) (ok : ∀ r ∈ ch, RgOk r) {j : Nat} {p : List Int} {st : Steps} (g : Grown ch T j p st) :
    ∃ x0 : Nat → Int, ∀ (c w i : Nat), (col st c)[w]? = some i → i < j ∧ Says ch i ((c : Int) - w) (x0 i) := by
  induction g with
  | nil => exact ⟨fun _ => 0, fun c w i h => by simp [col] at h⟩
  | skip _ ih =>
    obtain ⟨x0, h⟩ := ih
    exact ⟨x0, fun c w i q => ⟨by have := (h c w i q).1; omega, (h c w i q).2⟩⟩
  | @step j p st rg r e g ih =>
    obtain ⟨x0, h⟩ := ih
    obtain ⟨PH, PT⟩ := g.heap TH
    -- the rest of the class as a diagonal
    refine ⟨fun i => if i = j then (match cls T p (ord rg) r with | c :: _ => ((c : Int) - hgt p c) * rg.2 % rg.1 | [] => 0) else x0 i, fun c w i q => ?_⟩
    rw [col_snoc] at q
    by_cases a : w < (col st c).length
    · rw [List.getElem?_append_left a] at q
      obtain ⟨h1, h2⟩ := h c w i q
      refine ⟨by omega, ?_⟩
      dsimp only
      rw [if_neg (by omega : ¬ i = j)]
      exact h2
    · rw [List.getElem?_append_right (by omega)] at q
      by_cases m : c ∈ cls T p (ord rg) r
      · rw [if_pos m] at q
        obtain ⟨hw, hi⟩ : w - (col st c).length = 0 ∧ j = i := by
          have hl := (List.getElem?_eq_some_iff.mp q).1
          have hl : w - (col st c).length < 1 := by simpa using hl
          have z : w - (col st c).length = 0 := by omega
          rw [z] at q
          exact ⟨z, by simpa using q⟩
        subst hi
        refine ⟨by omega, rg, e, ?_⟩
        dsimp only
        rw [if_pos rfl]
        have cl := g.col_len TH c
        have wv : (w : Int) = hgt p c := by omega
        cases hc : cls T p (ord rg) r with
        | nil => rw [hc] at m; cases m
        | cons d ds =>
          have md : d ∈ cls T p (ord rg) r := by rw [hc]; exact List.mem_cons_self
          have e1 := ((mem_cls PH).mp md).2
          have e2 := ((mem_cls PH).mp m).2
          rw [wv]
          exact ord_dvd (ok rg (List.mem_of_getElem? e)) (e1.trans e2.symm)
      · rw [if_neg m] at q
        simp at q
theorem Grown.held {ch : List Rg} {T : List Int} (TH : Heap T) (ok : ∀ r ∈ ch, RgOk r) {j : Nat} {p : List Int} {st : Steps} (g : Grown ch T j p st) {x : List Int} (hx : x.length = ch.length) (hj : j ≤ ch.length)
    (hc : ∀ (c w i : Nat), (col st c)[w]? = some i → ∃ v, x[i]? = some v ∧ Says ch i ((c : Int) - w) v) : Held p (heapOf (ch.take j) (x.take j)) := by
  induction g with
  | nil => exact fun c => by rw [hgt_nil]; exact (heapOf_heap _ _).nn c
  | @skip j p st g ih =>
    have hjl : j < ch.length := by omega
    obtain ⟨rg, hr⟩ : ∃ rg, ch[j]? = some rg := ⟨_, List.getElem?_eq_getElem hjl⟩
    obtain ⟨v, hv⟩ : ∃ v, x[j]? = some v := ⟨_, List.getElem?_eq_getElem (by omega)⟩
    rw [List.take_succ, List.take_succ (l := x), hr, hv]
    have hl : (ch.take j).length = (x.take j).length := by rw [List.length_take, List.length_take]; omega
    show Held p (heapOf (ch.take j ++ [rg]) (x.take j ++ [v]))
    rw [heapOf_snoc hl]
    intro c
    refine Int.le_trans (ih (by omega) hc c) ?_
    unfold grow
    rw [growP_hgt (heapOf_heap _ _)]
    exact rise_le _ _ c
  | @step j p st rg r e g ih =>
    have hjl : j < ch.length := by omega
    obtain ⟨v, hv⟩ : ∃ v, x[j]? = some v := ⟨_, List.getElem?_eq_getElem (by omega)⟩
    have ih := ih (by omega) fun c w i q => hc c w i (by
      rw [col_snoc, List.getElem?_append_left (List.getElem?_eq_some_iff.mp q).1]
      exact q)
    obtain ⟨PH, PT⟩ := g.heap TH
    rw [List.take_succ, List.take_succ (l := x), e, hv]
    have hl : (ch.take j).length = (x.take j).length := by rw [List.length_take, List.length_take]; omega
    show Held _ (heapOf (ch.take j ++ [rg]) (x.take j ++ [v]))
    rw [heapOf_snoc hl]
    intro c
    unfold grow
    rw [growP_hgt (heapOf_heap _ _), (with_spec PH TH PT (cls_ok PH)).2]
    have le := ih c
    have up := rise_le (heapOf (ch.take j) (x.take j)) (lets rg v) c
    by_cases m : c ∈ cls T p (ord rg) r
    · rw [if_pos m]
      by_cases a : hgt p c = hgt (heapOf (ch.take j) (x.take j)) c
      · have ca : canAdd (heapOf (ch.take j) (x.take j)) c = true := by
          cases c with
          | zero => rfl
          | succ d =>
            refine canAdd_of ?_
            have := canAdd_succ ((mem_cls PH).mp m).1.1
            have := ih d
            omega
        have cl := g.col_len TH c
        obtain ⟨v', h1, rg', h2, h3⟩ := hc c (col st c).length j (by
          rw [col_snoc, if_pos m, List.getElem?_append_right (Nat.le_refl _), Nat.sub_self]
          rfl)
        rw [hv] at h1
        rw [e] at h2
        cases h1
        cases h2
        have lt : lets rg v ((c : Int) - hgt (heapOf (ch.take j) (x.take j)) c) = true := by
          rw [h3, ← a, ← cl]
          exact lets_self (ok rg (List.mem_of_getElem? e)) _
        unfold rise
        rw [ca, lt]
        simp
        omega
      · omega
    · rw [if_neg m]
      omega
/-- a filling of T -/
structure FillOk (ch : List Rg) (T : List Int) (fil : List (List Nat)) : Prop where
  cols : fil.length = T.length
  lens : ∀ (c : Nat) l, fil[c]? = some l → (l.length : Int) = hgt T c
  some_ : ∃ x0 : Nat → Int, ∀ (c : Nat) (l : List Nat) (w i : Nat), fil[c]? = some l → l[w]? = some i → Says ch i ((c : Int) - w) (x0 i)
  held : ∀ x : List Int, x.length = ch.length → (∀ (c : Nat) (l : List Nat) (w i : Nat), fil[c]? = some l → l[w]? = some i → ∃ v, x[i]? = some v ∧ Says ch i ((c : Int) - w) v) → Held T (heapOf ch x)
def lettersPut (T : List Int) (st : Steps) : List (List Nat) := (List.range T.length).map (col st)
theorem fill_ok {ch : List Rg} {T : List Int} (TH : Heap T) (ok : ∀ r ∈ ch, RgOk r) {st : Steps} (g : Grown ch T ch.length T st) : FillOk ch T (lettersPut T st) := by
  have at_ : ∀ c l, (lettersPut T st)[c]? = some l → c < T.length ∧ l = col st c := fun c l h => by
    unfold lettersPut at h
    rw [List.getElem?_map] at h
    by_cases e : c < T.length
    · rw [List.getElem?_range e] at h
      exact ⟨e, (Option.some.inj h).symm⟩
    · rw [List.getElem?_eq_none_iff.mpr (by simpa using (by omega : T.length ≤ c))] at h
      cases h
  refine ⟨by simp [lettersPut], fun c l h => ?_, ?_, fun x hx hc => ?_⟩
  · rw [(at_ c l h).2]
    exact g.col_len TH c
  · obtain ⟨x0, h⟩ := g.cons TH ok
    refine ⟨x0, fun c l w i h1 h2 => ?_⟩
    rw [(at_ c l h1).2] at h2
    exact (h c w i h2).2
  · have := g.held TH ok hx (Nat.le_refl _) fun c w i q => ?_
    · rw [List.take_length, ← hx, List.take_length] at this
      exact this
    · have hl : c < T.length := by
        have a := g.col_len TH c
        have b := (List.getElem?_eq_some_iff.mp q).1
        exact (TH.len_iff c).mpr (by omega)
      exact hc c (col st c) w i (by unfold lettersPut; rw [List.getElem?_map, List.getElem?_range hl]; rfl) q
/-- no filling: no heap holds T -/
theorem no_fill {ch : List Rg} {T : List Int} (TH : Heap T) {row : Row} (R : RowOk ch T ch.length row) (no : T ∉ row.map (·.1)) {x : List Int} (hx : x.length = ch.length) : ¬ Held T (heapOf ch x) := fun h => by
  obtain ⟨kv, hk, q⟩ := R.whole x hx
  rw [List.take_length] at q
  obtain ⟨PH, PT⟩ := (R.sound kv hk).heap TH
  refine no (List.mem_map.mpr ⟨kv, hk, heap_ext PH TH fun c => ?_⟩)
  have := q c
  have := h c
  have := PT c
  omega
end KM
namespace KX
open PySem L2
/-! ### what stays of the tracked heap: M tells the lists that may change, D the dice -/
abbrev Ads := Addr → Prop
abbrev M0 : Ads := fun _ => False
def DiceAt (H : Hp) (a : Addr) : Prop := ∃ x y z : Int, H a = some (.lst [.int x, .int y, .int z])
structure Good (M : Ads) (D : Option Addr) (H : Hp) : Prop where
  live : ∀ a, M a → H a ≠ none
  dice : ∀ a, D = some a → DiceAt H a
/-- the kind of an object: a list stays a list -/
def kd : HO → Nat
  | .tup _ => 0
  | .lst _ => 1
  | .dK _ => 2
  | .dT _ => 3
  | _ => 4
/-- tuples stay, kinds stay -/
structure Sta (H H' : Hp) : Prop where
  tups : ∀ a xs, H a = some (.tup xs) → H' a = some (.tup xs)
  kinds : ∀ a o, H a = some o → ∃ o', H' a = some o' ∧ kd o' = kd o
structure Ex (M : Ads) (D : Option Addr) (H H' : Hp) : Prop where
  keep : ∀ a o, ¬ M a → D ≠ some a → H a = some o → H' a = some o
  sta : Sta H H'
  there : ∀ a, H' a = none → H a = none
  good : Good M D H'
theorem Ex.tups {M : Ads} {D : Option Addr} {H H' : Hp} (e : Ex M D H H') : ∀ a xs, H a = some (.tup xs) → H' a = some (.tup xs) := e.sta.tups
theorem Sta.refl (H : Hp) : Sta H H := ⟨fun _ _ h => h, fun _ o h => ⟨o, h, rfl⟩⟩
theorem Sta.trans {H H1 H2 : Hp} (a : Sta H H1) (b : Sta H1 H2) : Sta H H2 := ⟨fun c xs h => b.tups c xs (a.tups c xs h), fun c o h => by
  obtain ⟨o1, h1, k1⟩ := a.kinds c o h
  obtain ⟨o2, h2, k2⟩ := b.kinds c o1 h1
  exact ⟨o2, h2, k2.trans k1⟩⟩
theorem Sta.same {H H' : Hp} (e : Same H H') : Sta H H' := ⟨fun c xs h => e c _ h, fun c o h => ⟨o, e c o h, rfl⟩⟩
theorem same_new {H : Hp} {p : Addr} {o : HO} (h : H p = none) : Same H (upd H p o) := fun b u q => by
  rw [upd_ne (ne_of_none q h)]
  exact q
theorem Sta.new {H : Hp} {p : Addr} {o : HO} (h : H p = none) : Sta H (upd H p o) := Sta.same (same_new h)
theorem Sta.put {H : Hp} {p : Addr} {o u : HO} (h : H p = some u) (k : kd o = kd u) (nt : kd u ≠ 0) : Sta H (upd H p o) := ⟨fun a xs q => by
  rw [upd_ne (fun z => by rw [z, h] at q; cases q; exact nt rfl)]
  exact q, fun a v q => by
  by_cases z : a = p
  · subst z
    rw [h] at q
    cases q
    exact ⟨o, upd_same, k⟩
  · exact ⟨v, by rw [upd_ne z]; exact q, rfl⟩⟩
section
variable {M : Ads} {D : Option Addr} {H H1 H2 H' : Hp} {p : Addr} {o : HO}
theorem Good.m0 (g : Good M D H) : Good M0 D H := ⟨fun _ h => h.elim, g.dice⟩
theorem good0 : Good M0 none H := ⟨fun _ h => h.elim, fun _ h => nomatch h⟩
theorem Ex.refl (g : Good M D H) : Ex M D H H := ⟨fun _ _ _ _ h => h, Sta.refl H, fun _ h => h, g⟩
theorem Ex.trans (a : Ex M D H H1) (b : Ex M D H1 H2) : Ex M D H H2 :=
  ⟨fun c o h d e => b.keep c o h d (a.keep c o h d e), a.sta.trans b.sta, fun c e => a.there c (b.there c e), b.good⟩
/-- nothing but the dice changed: more than asked -/
theorem Ex.up (g : Good M D H) (e : Ex M0 D H H') : Ex M D H H' :=
  ⟨fun c o _ d h => e.keep c o (fun z => z) d h, e.sta, e.there, ⟨fun a h z => g.live a h (e.there a z), e.good.dice⟩⟩
theorem Ex.then (a : Ex M D H H1) (b : Ex M0 D H1 H2) : Ex M D H H2 := a.trans (b.up a.good)
theorem Ex.same (g : Good M D H) (e : Same H H') : Ex M D H H' := by
  refine ⟨fun c o _ _ h => e c o h, Sta.same e, fun c h => ?_, ⟨fun a h z => g.live a h ?_, fun a h => ?_⟩⟩
  · cases q : H c with
    | none => rfl
    | some u => rw [e c u q] at h; cases h
  · cases q : H a with
    | none => rfl
    | some u => rw [e a u q] at z; cases z
  · obtain ⟨x, y, z, q⟩ := g.dice a h
    exact ⟨x, y, z, e _ _ q⟩
theorem Ex.toSame (e : Ex M0 none H H') : Same H H' := fun a o h => e.keep a o (fun z => z) (fun z => nomatch z) h
theorem Ex.new (e : Ex M D H H') (h : H' p = none) : Ex M D H (upd H' p o) := e.trans (Ex.same e.good (same_new h))
/-- an object of M is written -/
theorem Ex.put {u : HO} (e : Ex M D H H') (h : M p) (d : D ≠ some p) (hu : H' p = some u) (k : kd o = kd u) (nt : kd u ≠ 0) : Ex M D H (upd H' p o) := by
  refine e.trans ⟨fun a u hm _ q => ?_, Sta.put hu k nt, fun a q => ?_, ⟨fun a hm => ?_, fun a hd => ?_⟩⟩
  · rw [upd_ne (fun z => hm (by rw [z]; exact h))]
    exact q
  · by_cases z : a = p
    · subst z; rw [upd_same] at q; cases q
    · rw [upd_ne z] at q; exact q
  · by_cases z : a = p
    · subst z; rw [upd_same]; exact fun z => nomatch z
    · rw [upd_ne z]; exact e.good.live a hm
  · obtain ⟨x, y, w, q⟩ := e.good.dice a hd
    refine ⟨x, y, w, ?_⟩
    rw [upd_ne (fun z => d (by rw [← z]; exact hd))]
    exact q
/-- the dice are written -/
theorem Ex.roll {x y z : Int} (e : Ex M D H H') (d : D = some p) (hp : ¬ M p) : Ex M D H (upd H' p (.lst [.int x, .int y, .int z])) := by
  obtain ⟨x0, y0, z0, hd⟩ := e.good.dice p d
  refine e.trans ⟨fun a u hm hd' q => ?_, Sta.put hd rfl (fun z => nomatch z), fun a q => ?_, ⟨fun a hm => ?_, fun a hd' => ?_⟩⟩
  · rw [upd_ne (fun z => hd' (by rw [z]; exact d))]
    exact q
  · by_cases w : a = p
    · subst w; rw [upd_same] at q; cases q
    · rw [upd_ne w] at q; exact q
  · rw [upd_ne (fun z => hp (by rw [← z]; exact hm))]
    exact e.good.live a hm
  · have w : a = p := by rw [d] at hd'; exact (Option.some.inj hd').symm
    subst w
    exact ⟨x, y, z, upd_same⟩
/-- what was new at the start may change -/
theorem Ex.drop {N : Ads} (e : Ex M D H H1) (e2 : Ex N D H1 H2) (hN : ∀ a, N a → M a ∨ H a = none) (hM : ∀ a, M a → N a) : Ex M D H H2 := by
  refine ⟨fun a u hm hd q => e2.keep a u (fun z => ?_) hd (e.keep a u hm hd q), e.sta.trans e2.sta, fun a q => e.there a (e2.there a q), ⟨fun a hm => e2.good.live a (hM a hm), e2.good.dice⟩⟩
  rcases hN a z with w | w
  · exact hm w
  · rw [w] at q; cases q
theorem Ex.seqL {K : PySem.W.Frag} {xs : List V} (e : Ex M D H H') (hm : ¬ M p) (hd : D ≠ some p) (h : SqL K H p xs) : SqL K H' p xs := by
  rcases h with (h | ⟨ob, h⟩) | h
  · exact .inl (.inl (e.keep _ _ hm hd h))
  · exact .inl (.inr ⟨ob, e.keep _ _ hm hd h⟩)
  · exact .inr h
end
/-! ### what stands where: data at a value -/
abbrev Rel (α : Type) := Hp → V → α → Prop
class Mo {α : Type} (R : Rel α) : Prop where
  mono : ∀ {H H' : Hp} {v : V} {a : α}, Sta H H' → R H v a → R H' v a
def RI : Rel Int := fun _ v i => v = .int i
def RN : Rel Nat := fun _ v n => v = .int (n : Int)
def RB : Rel Bool := fun _ v b => v = .bl b
def RV : Rel V := fun _ v x => v = x
def RT {α : Type} (R : Rel α) : Rel (List α) := fun H v l => ∃ a xs, v = .ref a ∧ H a = some (.tup xs) ∧ Paired (R H) xs l
def RP {α β : Type} (R : Rel α) (S : Rel β) : Rel (α × β) := fun H v p => ∃ a x y, v = .ref a ∧ H a = some (.tup [x, y]) ∧ R H x p.1 ∧ S H y p.2
/-- a list's items -/
def LAt {α : Type} (H : Hp) (p : Addr) (R : Rel α) (l : List α) : Prop := ∃ xs, H p = some (.lst xs) ∧ Paired (R H) xs l
theorem paired_mono {α β : Type} {F G : α → β → Prop} (f : ∀ a b, F a b → G a b) : ∀ {l : List α} {m : List β}, Paired F l m → Paired G l m
  | _, _, .nil => .nil
  | _, _, .cons r t => .cons (f _ _ r) (paired_mono f t)
instance : Mo RI := ⟨fun _ h => h⟩
instance : Mo RN := ⟨fun _ h => h⟩
instance : Mo RB := ⟨fun _ h => h⟩
instance : Mo RV := ⟨fun _ h => h⟩
instance {α : Type} {R : Rel α} [Mo R] : Mo (RT R) := ⟨fun k ⟨a, xs, e, h, r⟩ => ⟨a, xs, e, k.tups _ _ h, paired_mono (fun _ _ q => Mo.mono k q) r⟩⟩
instance {α β : Type} {R : Rel α} {S : Rel β} [Mo R] [Mo S] : Mo (RP R S) := ⟨fun k ⟨a, x, y, e, h, r, q⟩ => ⟨a, x, y, e, k.tups _ _ h, Mo.mono k r, Mo.mono k q⟩⟩
section
variable {α β : Type} {R : Rel α} {S : Rel β} {M : Ads} {D : Option Addr} {H H' : Hp} {p : Addr} {v : V} {a : α}
theorem Ex.mo [Mo R] (e : Ex M D H H') (h : R H v a) : R H' v a := Mo.mono e.sta h
theorem Ex.lat [Mo R] {l : List α} (e : Ex M D H H') (hm : ¬ M p) (hd : D ≠ some p) (h : LAt H p R l) : LAt H' p R l := by
  obtain ⟨xs, h1, h2⟩ := h
  exact ⟨xs, e.keep _ _ hm hd h1, paired_mono (fun _ _ q => e.mo q) h2⟩
theorem LAt.sq {K : PySem.W.Frag} {l : List α} (h : LAt H p R l) : ∃ xs, SqL K H p xs ∧ Paired (R H) xs l := by
  obtain ⟨xs, h1, h2⟩ := h
  exact ⟨xs, SqL.of h1, h2⟩
theorem paired_get {F : V → α → Prop} : ∀ {xs : List V} {l : List α} {i : Nat}, Paired F xs l → i < l.length → ∃ x y, xs[i]? = some x ∧ l[i]? = some y ∧ F x y
  | _, _, i, .nil, h => by simp at h
  | _, _, 0, .cons r _, _ => ⟨_, _, rfl, rfl, r⟩
  | _, _, i + 1, .cons _ t, h => by
    obtain ⟨x, y, h1, h2, h3⟩ := paired_get (i := i) t (by simpa using h)
    exact ⟨x, y, by simpa using h1, by simpa using h2, h3⟩
theorem paired_at {F : V → α → Prop} {xs : List V} {l : List α} {i : Nat} {y : α} (h : Paired F xs l) (e : l[i]? = some y) : ∃ x, xs[i]? = some x ∧ F x y := by
  obtain ⟨x, y', h1, h2, h3⟩ := paired_get h (List.getElem?_eq_some_iff.mp e).1
  rw [e] at h2
  cases h2
  exact ⟨x, h1, h3⟩
theorem paired_ints : ∀ {xs : List V} {l : List Int}, Paired (RI H) xs l → xs = l.map V.int
  | _, _, .nil => rfl
  | _, _, .cons r t => by rw [show _ = V.int _ from r, paired_ints t]; rfl
theorem paired_nats : ∀ {xs : List V} {l : List Nat}, Paired (RN H) xs l → xs = l.map fun (n : Nat) => V.int (n : Int)
  | _, _, .nil => rfl
  | _, _, .cons r t => by rw [show _ = V.int _ from r, paired_nats t]; rfl
theorem ints_paired : ∀ (l : List Int), Paired (RI H) (l.map V.int) l
  | [] => .nil
  | _ :: l => .cons rfl (ints_paired l)
theorem paired_vs : ∀ (l : List V), Paired (RV H) l l
  | [] => .nil
  | _ :: l => .cons rfl (paired_vs l)
theorem paired_app {F : V → α → Prop} : ∀ {xs ys : List V} {l m : List α}, Paired F xs l → Paired F ys m → Paired F (xs ++ ys) (l ++ m)
  | _, _, _, _, .nil, q => q
  | _, _, _, _, .cons r t, q => .cons r (paired_app t q)
theorem paired_set {F : V → α → Prop} {x : V} {y : α} (f : F x y) : ∀ {xs : List V} {l : List α} (i : Nat), Paired F xs l → Paired F (xs.set i x) (l.set i y)
  | _, _, _, .nil => .nil
  | _, _, 0, .cons _ t => .cons f t
  | _, _, i + 1, .cons r t => .cons r (paired_set f i t)
theorem paired_rep {F : V → α → Prop} {x : V} {y : α} (f : F x y) : ∀ n, Paired F (List.replicate n x) (List.replicate n y)
  | 0 => .nil
  | n + 1 => .cons f (paired_rep f n)
end
/-! ### what an expression gives -/
def Ev (M : Ads) (D : Option Addr) (te : TE) (σ : L2.St) (H : Hp) (P : V → Hp → Prop) : Prop := ∀ H1, Ex M D H H1 → ∀ Q : VK, (∀ v H2, Ex M0 D H1 H2 → P v H2 → Q v H2) → te σ H1 Q
abbrev EvR {α : Type} (M : Ads) (D : Option Addr) (te : TE) (σ : L2.St) (H : Hp) (R : Rel α) (a : α) : Prop := Ev M D te σ H fun v H' => R H' v a
def EvT (M : Ads) (D : Option Addr) (tt : TT) (σ : L2.St) (H : Hp) (P : Bool → Prop) : Prop := ∀ H1, Ex M D H H1 → ∀ Q : Bool → Hp → Prop, (∀ b H2, Ex M0 D H1 H2 → P b → Q b H2) → tt σ H1 Q
abbrev EvB (M : Ads) (D : Option Addr) (tt : TT) (σ : L2.St) (H : Hp) (b : Bool) : Prop := EvT M D tt σ H fun c => c = b
def EvA (M : Ads) (D : Option Addr) (ta : TA) (σ : L2.St) (H : Hp) (P : List V → Hp → Prop) : Prop := ∀ H1, Ex M D H H1 → ∀ Q : List V → Hp → Prop, (∀ vs H2, Ex M0 D H1 H2 → P vs H2 → Q vs H2) → ta σ H1 Q
/-- a new list -/
def EvN (M : Ads) (D : Option Addr) (te : TE) (σ : L2.St) (H : Hp) (P : Addr → Hp → Prop) : Prop := ∀ H1, Ex M D H H1 → ∀ Q : VK, (∀ p H2, H1 p = none → Ex M0 D H1 H2 → P p H2 → Q (.ref p) H2) → te σ H1 Q
abbrev EvL {α : Type} (M : Ads) (D : Option Addr) (te : TE) (σ : L2.St) (H : Hp) (R : Rel α) (l : List α) : Prop := EvN M D te σ H fun p H' => LAt H' p R l
/-- what holds here holds behind -/
class MoP (P : V → Hp → Prop) : Prop where
  mono : ∀ {H H' : Hp} {v : V}, Sta H H' → P v H → P v H'
instance {α : Type} {R : Rel α} [Mo R] {a : α} : MoP (fun v H' => R H' v a) := ⟨fun k h => Mo.mono k h⟩
section
variable {K : PySem.W.Frag} {M : Ads} {D : Option Addr} {σ : L2.St} {H H' : Hp} {ta tb te : TE} {t u : TT} {P P' : V → Hp → Prop} {α β : Type} {R : Rel α} {S : Rel β}
theorem Ev.mono (e : Ex M D H H') (h : Ev M D te σ H P) : Ev M D te σ H' P := fun H1 a Q q => h H1 (e.trans a) Q q
theorem EvT.mono {p : Bool → Prop} (e : Ex M D H H') (h : EvT M D t σ H p) : EvT M D t σ H' p := fun H1 a Q q => h H1 (e.trans a) Q q
theorem EvN.mono {p : Addr → Hp → Prop} (e : Ex M D H H') (h : EvN M D te σ H p) : EvN M D te σ H' p := fun H1 a Q q => h H1 (e.trans a) Q q
theorem EvA.mono {p : List V → Hp → Prop} {ta : TA} (e : Ex M D H H') (h : EvA M D ta σ H p) : EvA M D ta σ H' p := fun H1 a Q q => h H1 (e.trans a) Q q
theorem Ev.imp (h : Ev M D te σ H P) (f : ∀ v H', P v H' → P' v H') : Ev M D te σ H P' := fun H1 a Q q => h H1 a Q fun v H2 e p => q v H2 e (f v H2 p)
theorem EvT.imp {p p' : Bool → Prop} (h : EvT M D t σ H p) (f : ∀ b, p b → p' b) : EvT M D t σ H p' := fun H1 a Q q => h H1 a Q fun v H2 e r => q v H2 e (f v r)
theorem EvR.eq {a b : α} (h : EvR M D te σ H R a) (e : a = b) : EvR M D te σ H R b := e ▸ h
theorem EvB.eq {a b : Bool} (h : EvB M D t σ H a) (e : a = b) : EvB M D t σ H b := e ▸ h
theorem EvL.eq {a b : List α} (h : EvL M D te σ H R a) (e : a = b) : EvL M D te σ H R b := e ▸ h
theorem ev_var {i : Nat} {v : V} (h : σ[i]? = some (some v)) : Ev M D (tVar i) σ H fun x _ => x = v := fun H1 e Q q => ⟨v, h, q v H1 (Ex.refl e.good.m0) rfl⟩
theorem er_var [Mo R] {i : Nat} {v : V} {a : α} (h : σ[i]? = some (some v)) (r : R H v a) : EvR M D (tVar i) σ H R a := fun H1 e Q q => ⟨v, h, q v H1 (Ex.refl e.good.m0) (e.mo r)⟩
theorem er_int {i : Int} : EvR M D (tC (.int i)) σ H RI i := fun H1 e Q q => q _ H1 (Ex.refl e.good.m0) rfl
theorem er_bl {b : Bool} : EvR M D (tC (.bl b)) σ H RB b := fun H1 e Q q => q _ H1 (Ex.refl e.good.m0) rfl
theorem ev_c {v : V} : Ev M D (tC v) σ H fun x _ => x = v := fun H1 e Q q => q _ H1 (Ex.refl e.good.m0) rfl
/-- two operands, an operation on what they are -/
theorem ev_op {r : R2} {Pa Pb : V → Hp → Prop} [MoP Pa] (ha : Ev M D ta σ H Pa) (hb : Ev M D tb σ H Pb) (hr : ∀ x y H1, Ex M D H H1 → Pa x H1 → Pb y H1 → ∀ Q : VK, (∀ v H2, Ex M0 D H1 H2 → P v H2 → Q v H2) → r x y H1 Q) : Ev M D (tOp r ta tb) σ H P := fun H1 e Q q =>
  ha H1 e _ fun x H2 e2 px => hb H2 (e.then e2) _ fun y H3 e3 py => hr x y H3 ((e.then e2).then e3) (MoP.mono e3.sta px) py Q fun v H4 e4 p => q v H4 ((e2.trans e3).trans e4) p
theorem er_op0 {g : Int → Int → V} {i j : Int} {c : β} (ha : EvR M D ta σ H RI i) (hb : EvR M D tb σ H RI j) (hg : ∀ H, S H (g i j) c) : EvR M D (tOp (rI0 g) ta tb) σ H S c :=
  ev_op ha hb fun x y H1 e p q Q k => ⟨i, j, p, q, k _ H1 (Ex.refl e.good.m0) (hg H1)⟩
theorem er_opC {C : Int → Int → Prop} {g : Int → Int → V} {i j : Int} {c : β} (ha : EvR M D ta σ H RI i) (hb : EvR M D tb σ H RI j) (hc : C i j) (hg : ∀ H, S H (g i j) c) : EvR M D (tOp (rI C g) ta tb) σ H S c :=
  ev_op ha hb fun x y H1 e p q Q k => ⟨i, j, p, q, hc, k _ H1 (Ex.refl e.good.m0) (hg H1)⟩
theorem er_add {i j : Int} (ha : EvR M D ta σ H RI i) (hb : EvR M D tb σ H RI j) : EvR M D (tOp (rI0 fun i j => .int (i + j)) ta tb) σ H RI (i + j) := er_op0 ha hb fun _ => rfl
theorem er_sub {i j : Int} (ha : EvR M D ta σ H RI i) (hb : EvR M D tb σ H RI j) : EvR M D (tOp (rI0 fun i j => .int (i - j)) ta tb) σ H RI (i - j) := er_op0 ha hb fun _ => rfl
theorem er_mul {i j : Int} (ha : EvR M D ta σ H RI i) (hb : EvR M D tb σ H RI j) (hc : CMul i j) : EvR M D (tOp (rI CMul fun i j => .int (i * j)) ta tb) σ H RI (i * j) := er_opC ha hb hc fun _ => rfl
theorem er_mod {i j : Int} (ha : EvR M D ta σ H RI i) (hb : EvR M D tb σ H RI j) (hc : 0 < j) : EvR M D (tOp (rI (fun _ j => 0 < j) fun i j => .int (i % j)) ta tb) σ H RI (i % j) := er_opC ha hb hc fun _ => rfl
theorem er_fdiv {i j : Int} (ha : EvR M D ta σ H RI i) (hb : EvR M D tb σ H RI j) (hc : CDiv i j) : EvR M D (tOp (rI CDiv fun i j => .int (i / j)) ta tb) σ H RI (i / j) := er_opC ha hb hc fun _ => rfl
theorem er_lt {i j : Int} (ha : EvR M D ta σ H RI i) (hb : EvR M D tb σ H RI j) : EvR M D (tOp (rI0 fun i j => .bl (decide (i < j))) ta tb) σ H RB (decide (i < j)) := er_op0 ha hb fun _ => rfl
theorem er_le {i j : Int} (ha : EvR M D ta σ H RI i) (hb : EvR M D tb σ H RI j) : EvR M D (tOp (rI0 fun i j => .bl (decide (i ≤ j))) ta tb) σ H RB (decide (i ≤ j)) := er_op0 ha hb fun _ => rfl
theorem er_gt {i j : Int} (ha : EvR M D ta σ H RI i) (hb : EvR M D tb σ H RI j) : EvR M D (tOp (rI0 fun i j => .bl (decide (j < i))) ta tb) σ H RB (decide (j < i)) := er_op0 ha hb fun _ => rfl
theorem er_ge {i j : Int} (ha : EvR M D ta σ H RI i) (hb : EvR M D tb σ H RI j) : EvR M D (tOp (rI0 fun i j => .bl (decide (j ≤ i))) ta tb) σ H RB (decide (j ≤ i)) := er_op0 ha hb fun _ => rfl
theorem er_eq {i j : Int} (ha : EvR M D ta σ H RI i) (hb : EvR M D tb σ H RI j) : EvR M D (tOp rEq ta tb) σ H RB (decide (i = j)) :=
  ev_op ha hb fun x y H1 e p q Q k => by
    rw [show x = .int i from p, show y = .int j from q]
    refine ⟨rfl, k _ H1 (Ex.refl e.good.m0) ?_⟩
    show V.bl _ = V.bl _
    congr 1
    simp
theorem er_ne {i j : Int} (ha : EvR M D ta σ H RI i) (hb : EvR M D tb σ H RI j) : EvR M D (tOp rNe ta tb) σ H RB (!decide (i = j)) :=
  ev_op ha hb fun x y H1 e p q Q k => by
    rw [show x = .int i from p, show y = .int j from q]
    refine ⟨rfl, k _ H1 (Ex.refl e.good.m0) ?_⟩
    show V.bl _ = V.bl _
    congr 1
    simp
theorem er_nat {n : Nat} {i : Int} (h : EvR M D te σ H RN n) (e : (n : Int) = i) : EvR M D te σ H RI i := h.imp fun v _ q => by rw [← e]; exact q
theorem er_toN {n : Nat} {i : Int} (h : EvR M D te σ H RI i) (e : i = (n : Int)) : EvR M D te σ H RN n := h.imp fun v _ q => by show v = V.int (n : Int); rw [← e]; exact q
/-! tests -/
theorem et_test {b : Bool} (h : EvR M D te σ H RB b) : EvB M D (tTest te) σ H b := fun H1 e _ q => h H1 e _ fun v H2 e2 p => ⟨b, p, q b H2 e2 rfl⟩
theorem et_B {b : Bool} (h : EvR M D te σ H RB b) : EvB M D (tB te) σ H b := fun H1 e _ q => h H1 e _ fun v H2 e2 p => ⟨b, p, q b H2 e2 rfl⟩
theorem et_testP {p : Bool → Prop} (h : Ev M D te σ H fun v _ => ∃ b, v = .bl b ∧ p b) : EvT M D (tTest te) σ H p := fun H1 e _ q => h H1 e _ fun v H2 e2 ⟨b, e3, pb⟩ => ⟨b, e3, q b H2 e2 pb⟩
theorem et_BP {p : Bool → Prop} (h : Ev M D te σ H fun v _ => ∃ b, v = .bl b ∧ p b) : EvT M D (tB te) σ H p := fun H1 e _ q => h H1 e _ fun v H2 e2 ⟨b, e3, pb⟩ => ⟨b, e3, q b H2 e2 pb⟩
theorem et_and {a b : Bool} (h1 : EvB M D t σ H a) (h2 : a = true → EvB M D u σ H b) : EvB M D (tAnd t u) σ H (a && b) := fun H1 e Q q => h1 H1 e _ fun c H2 e2 ec => by
  subst ec
  cases c with
  | true =>
    show u σ H2 Q
    exact h2 rfl H2 (e.then e2) Q fun c H3 e3 ec => q c H3 (e2.trans e3) ec
  | false => exact q false H2 e2 rfl
theorem et_or {a b : Bool} (h1 : EvB M D t σ H a) (h2 : a = false → EvB M D u σ H b) : EvB M D (tOr t u) σ H (a || b) := fun H1 e Q q => h1 H1 e _ fun c H2 e2 ec => by
  subst ec
  cases c with
  | true => exact q true H2 e2 rfl
  | false =>
    show u σ H2 Q
    exact h2 rfl H2 (e.then e2) Q fun c H3 e3 ec => q c H3 (e2.trans e3) ec
theorem et_not {a : Bool} (h1 : EvB M D t σ H a) : EvB M D (tNot t) σ H (!a) := fun H1 e _ q => h1 H1 e _ fun c H2 e2 ec => q _ H2 e2 (by rw [ec])
theorem et_yes : EvB M D tYes σ H true := fun H1 e _ q => q true H1 (Ex.refl e.good.m0) rfl
theorem er_andV {a b : Bool} (h1 : EvR M D ta σ H RB a) (h2 : a = true → EvR M D tb σ H RB b) : EvR M D (tAndV ta tb) σ H RB (a && b) := fun H1 e Q q => h1 H1 e _ fun v H2 e2 p => ⟨a, p, by
  cases a with
  | true =>
    show tb σ H2 Q
    exact h2 rfl H2 (e.then e2) Q fun c H3 e3 ec => q c H3 (e2.trans e3) ec
  | false => exact q _ H2 e2 rfl⟩
theorem er_orV {a b : Bool} (h1 : EvR M D ta σ H RB a) (h2 : a = false → EvR M D tb σ H RB b) : EvR M D (tOrV ta tb) σ H RB (a || b) := fun H1 e Q q => h1 H1 e _ fun v H2 e2 p => ⟨a, p, by
  cases a with
  | true => exact q _ H2 e2 rfl
  | false =>
    show tb σ H2 Q
    exact h2 rfl H2 (e.then e2) Q fun c H3 e3 ec => q c H3 (e2.trans e3) ec⟩
theorem er_notV {a : Bool} (h1 : EvR M D ta σ H RB a) : EvR M D (tNotV ta) σ H RB (!a) := fun H1 e _ q => h1 H1 e _ fun v H2 e2 p => ⟨a, p, q _ H2 e2 rfl⟩
theorem ev_if {p : Bool → Prop} (h : EvT M D t σ H p) (h1 : p true → Ev M D ta σ H P) (h2 : p false → Ev M D tb σ H P) : Ev M D (tIf t ta tb) σ H P := fun H1 e Q q => h H1 e _ fun c H2 e2 pc => by
  cases c with
  | true =>
    show ta σ H2 Q
    exact h1 pc H2 (e.then e2) Q fun v H3 e3 r => q v H3 (e2.trans e3) r
  | false =>
    show tb σ H2 Q
    exact h2 pc H2 (e.then e2) Q fun v H3 e3 r => q v H3 (e2.trans e3) r
theorem er_if {b : Bool} {a a' : α} (h : EvB M D t σ H b) (h1 : b = true → EvR M D ta σ H R a) (h2 : b = false → EvR M D tb σ H R a') : EvR M D (tIf t ta tb) σ H R (if b = true then a else a') :=
  ev_if h (fun e => by rw [if_pos e.symm]; exact h1 e.symm) (fun e => by rw [if_neg (by rw [← e]; decide)]; exact h2 e.symm)
/-! arguments, tuples, lists -/
theorem ea_nil : EvA M D tNil σ H fun vs _ => vs = [] := fun H1 e _ q => q [] H1 (Ex.refl e.good.m0) rfl
theorem ea_cons {tr : TA} {Pa : V → Hp → Prop} {Pr : List V → Hp → Prop} [MoP Pa] (h : Ev M D ta σ H Pa) (hr : EvA M D tr σ H Pr) : EvA M D (tCons ta tr) σ H fun vs H' => ∃ v r, vs = v :: r ∧ Pa v H' ∧ Pr r H' := fun H1 e _ q =>
  h H1 e _ fun v H2 e2 p => hr H2 (e.then e2) _ fun r H3 e3 pr => q (v :: r) H3 (e2.trans e3) ⟨v, r, rfl, MoP.mono e3.sta p, pr⟩
theorem ea_one {Pa : V → Hp → Prop} (h : Ev M D ta σ H Pa) : EvA M D (tCons ta tNil) σ H fun vs H' => ∃ v, vs = [v] ∧ Pa v H' := fun H1 e _ q =>
  h H1 e _ fun v H2 e2 p => q [v] H2 e2 ⟨v, rfl, p⟩
theorem EvA.imp {ta : TA} {P P' : List V → Hp → Prop} (h : EvA M D ta σ H P) (f : ∀ v H', P v H' → P' v H') : EvA M D ta σ H P' := fun H1 a Q q => h H1 a Q fun v H2 e p => q v H2 e (f v H2 p)
theorem sz_of {n : Nat} (h : n ≤ 100000) : n ≤ sizeLine := Nat.le_trans h (by decide)
theorem sz_lt {n : Nat} (h : n < 100000) : n < sizeLine := Nat.lt_of_lt_of_le h (by decide)
theorem ev_tup {ta : TA} {Pa : List V → Hp → Prop} (h : EvA M D ta σ H Pa) (hl : ∀ vs H', Pa vs H' → vs.length ≤ 100000) (hp : ∀ vs H1 a H2, Pa vs H1 → Sta H1 H2 → H2 a = some (.tup vs) → P (.ref a) H2) : Ev M D (tTup ta) σ H P := fun H1 e Q q =>
  h H1 e _ fun vs H2 e2 p => ⟨sz_of (hl vs H2 p), fun a ha => q _ _ (e2.new ha) (hp vs H2 a _ p (Sta.new ha) upd_same)⟩
theorem er_pair [Mo R] [Mo S] {a : α} {b : β} (h1 : EvR M D ta σ H R a) (h2 : EvR M D tb σ H S b) : EvR M D (tTup (tCons ta (tCons tb tNil))) σ H (RP R S) (a, b) :=
  ev_tup (ea_cons h1 (ea_one h2)) (fun vs _ ⟨_, _, e, _, _, e2, _⟩ => by rw [e, e2]; show 2 ≤ 100000; decide)
    fun vs H1 c H2 ⟨x, r, e, p1, y, e2, p2⟩ k h => ⟨c, x, y, rfl, by rw [h, e, e2], Mo.mono k p1, Mo.mono k p2⟩
theorem er_tup0 : EvR M D (tTup tNil) σ H (RT R) ([] : List α) :=
  ev_tup ea_nil (fun vs _ e => by rw [e]; exact Nat.zero_le _) fun vs H1 c H2 e k h => ⟨c, [], rfl, by rw [h, e], .nil⟩
theorem er_tup1 [Mo R] {a : α} (h1 : EvR M D ta σ H R a) : EvR M D (tTup (tCons ta tNil)) σ H (RT R) [a] :=
  ev_tup (ea_one h1) (fun vs _ ⟨_, e, _⟩ => by rw [e]; show 1 ≤ 100000; decide) fun vs H1 c H2 ⟨x, e, p⟩ k h => ⟨c, [x], rfl, by rw [h, e], .cons (Mo.mono k p) .nil⟩
theorem en_lst {ta : TA} {Pa : List V → Hp → Prop} {PN : Addr → Hp → Prop} (h : EvA M D ta σ H Pa) (hl : ∀ vs H', Pa vs H' → vs.length ≤ 100000) (hp : ∀ vs H1 a H2, Pa vs H1 → Sta H1 H2 → H2 a = some (.lst vs) → PN a H2) : EvN M D (tLst ta) σ H PN := fun H1 e Q q =>
  h H1 e _ fun vs H2 e2 p => ⟨sz_of (hl vs H2 p), fun a ha => q _ _ (e2.there a ha) (e2.new ha) (hp vs H2 a _ p (Sta.new ha) upd_same)⟩
theorem el_nil : EvL M D (tLst tNil) σ H R ([] : List α) :=
  en_lst ea_nil (fun vs _ e => by rw [e]; exact Nat.zero_le _) fun vs H1 c H2 e k h => ⟨[], by rw [h, e], .nil⟩
theorem el_one [Mo R] {a : α} (h1 : EvR M D ta σ H R a) : EvL M D (tLst (tCons ta tNil)) σ H R [a] :=
  en_lst (ea_one h1) (fun vs _ ⟨_, e, _⟩ => by rw [e]; show 1 ≤ 100000; decide) fun vs H1 c H2 ⟨x, e, p⟩ k h => ⟨[x], by rw [h, e], .cons (Mo.mono k p) .nil⟩
end
end KX
namespace KX
open PySem L2
section
variable {K : PySem.W.Frag} {M : Ads} {D : Option Addr} {σ : L2.St} {H H' : Hp} {ta tb te tc : TE} {t u : TT} {P P' : V → Hp → Prop} {α β γ : Type} {R : Rel α} {S : Rel β}
/-! items, lengths -/
theorem er_ixT {l : List α} {i : Int} {j : Nat} {a : α} (ha : EvR M D ta σ H (RT R) l) (hb : EvR M D tb σ H RI i) (hi : i = (j : Int)) (hj : l[j]? = some a) [Mo R] : EvR M D (tOp (rIxT K) ta tb) σ H R a :=
  ev_op ha hb fun x y H1 e ⟨c, xs, e1, e2, p⟩ q Q k => by
    obtain ⟨v, h1, h2⟩ := paired_at p hj
    exact ⟨c, xs, i, v, e1, q, SqT.of e2, by rw [hi]; exact atI_nat h1, k v H1 (Ex.refl e.good.m0) h2⟩
/-- the last item -/
theorem er_ixTl {l : List α} {a : α} (ha : EvR M D ta σ H (RT R) l) (hb : EvR M D tb σ H RI (-1)) (hj : l.getLast? = some a) [Mo R] : EvR M D (tOp (rIxT K) ta tb) σ H R a :=
  ev_op ha hb fun x y H1 e ⟨c, xs, e1, e2, p⟩ q Q k => by
    rw [List.getLast?_eq_getElem?] at hj
    obtain ⟨v, h1, h2⟩ := paired_at p hj
    have hl : xs ≠ [] := fun z => by rw [z] at h1; simp at h1
    have e3 := (List.dropLast_concat_getLast hl).symm
    refine ⟨c, xs, -1, v, e1, q, SqT.of e2, ?_, k v H1 (Ex.refl e.good.m0) h2⟩
    have : v = xs.getLast hl := by
      have h3 := List.getLast?_eq_some_getLast hl
      rw [List.getLast?_eq_getElem?, Paired.length p, h1] at h3
      exact Option.some.inj h3
    have h4 := atI_last xs.dropLast (xs.getLast hl)
    rw [← e3, ← this] at h4
    exact h4
theorem er_fst [Mo R] [Mo S] {p : α × β} (ha : EvR M D ta σ H (RP R S) p) (hb : EvR M D tb σ H RI 0) : EvR M D (tOp (rIxT K) ta tb) σ H R p.1 :=
  ev_op ha hb fun x y H1 e ⟨c, v, w, e1, e2, r, s⟩ q Q k => ⟨c, [v, w], 0, v, e1, q, SqT.of e2, atI_nat (j := 0) rfl, k v H1 (Ex.refl e.good.m0) r⟩
theorem er_snd [Mo R] [Mo S] {p : α × β} (ha : EvR M D ta σ H (RP R S) p) (hb : EvR M D tb σ H RI 1) : EvR M D (tOp (rIxT K) ta tb) σ H S p.2 :=
  ev_op ha hb fun x y H1 e ⟨c, v, w, e1, e2, r, s⟩ q Q k => ⟨c, [v, w], 1, w, e1, q, SqT.of e2, atI_nat (j := 1) rfl, k w H1 (Ex.refl e.good.m0) s⟩
/-- an item of a list that stands -/
theorem er_ixL {l : List α} {i : Int} {j : Nat} {a : α} {p : Addr} (ha : Ev M D ta σ H fun v _ => v = .ref p) (hb : EvR M D tb σ H RI i) (hl : LAt H p R l) (hm : ¬ M p) (hd : D ≠ some p) (hi : i = (j : Int)) (hj : l[j]? = some a) [Mo R] : EvR M D (tOp (rIxL K) ta tb) σ H R a := fun H1 e Q q =>
  ha H1 e _ fun x H2 e2 px => hb H2 (e.then e2) _ fun y H3 e3 py => by
    obtain ⟨xs, h1, h2⟩ := ((e.then e2).then e3).lat hm hd hl
    obtain ⟨v, h3, h4⟩ := paired_at h2 hj
    exact ⟨p, xs, i, v, px, py, SqL.of h1, by rw [hi]; exact atI_nat h3, q v H3 (e2.trans e3) h4⟩
/-- an item of the script -/
theorem er_ixS {ns : List Int} {i : Int} {j : Nat} {a : Int} {p : Addr} (ha : Ev M D ta σ H fun v _ => v = .ref p) (hb : EvR M D tb σ H RI i) (hl : SqL K H p (ns.map V.int)) (hm : ¬ M p) (hd : D ≠ some p) (hi : i = (j : Int)) (hj : ns[j]? = some a) : EvR M D (tOp (rIxL K) ta tb) σ H RI a := fun H1 e Q q =>
  ha H1 e _ fun x H2 e2 px => hb H2 (e.then e2) _ fun y H3 e3 py =>
    ⟨p, ns.map V.int, i, .int a, px, py, ((e.then e2).then e3).seqL hm hd hl, by rw [hi]; exact atI_nat (by rw [List.getElem?_map, hj]; rfl), q _ H3 (e2.trans e3) rfl⟩
def rLenS (K : PySem.W.Frag) : List V → Hp → VK → Prop := fun xs H Q => ∃ p ys, xs = [.ref p] ∧ (SqL K H p ys ∨ SqT K H p ys) ∧ Q (.int ys.length) H
theorem er_lenT {l : List α} (ha : EvR M D ta σ H (RT R) l) : EvR M D (tCB (rLenS K) (tCons ta tNil)) σ H RN l.length := fun H1 e Q q =>
  ha H1 e _ fun x H2 e2 ⟨c, xs, e1, h, p⟩ => ⟨c, xs, by rw [e1], .inr (SqT.of h), by rw [Paired.length p]; exact q _ H2 e2 rfl⟩
theorem er_lenL {l : List α} {p : Addr} (ha : Ev M D ta σ H fun v _ => v = .ref p) (hl : LAt H p R l) (hm : ¬ M p) (hd : D ≠ some p) [Mo R] : EvR M D (tCB (rLenS K) (tCons ta tNil)) σ H RN l.length := fun H1 e Q q =>
  ha H1 e _ fun x H2 e2 px => by
    obtain ⟨xs, h1, h2⟩ := (e.then e2).lat hm hd hl
    exact ⟨p, xs, by rw [px], .inl (SqL.of h1), by rw [Paired.length h2]; exact q _ H2 e2 rfl⟩
theorem er_lenS {xs : List V} {p : Addr} (ha : Ev M D ta σ H fun v _ => v = .ref p) (hl : SqL K H p xs) (hm : ¬ M p) (hd : D ≠ some p) : EvR M D (tCB (rLenS K) (tCons ta tNil)) σ H RN xs.length := fun H1 e Q q =>
  ha H1 e _ fun x H2 e2 px => ⟨p, xs, by rw [px], .inl ((e.then e2).seqL hm hd hl), q _ H2 e2 rfl⟩
/-! tuple(list), list(tuple) -/
def rTupOf (K : PySem.W.Frag) : List V → Hp → VK → Prop := fun xs H Q => ∃ p ys, xs = [.ref p] ∧ ((SqL K H p ys ∧ ∀ l, H l = none → Q (.ref l) (upd H l (.tup ys))) ∨ (SqT K H p ys ∧ Q (.ref p) H))
def rLstOf (K : PySem.W.Frag) : List V → Hp → VK → Prop := fun xs H Q => ∃ p ys, xs = [.ref p] ∧ (SqL K H p ys ∨ SqT K H p ys) ∧ ∀ l, H l = none → Q (.ref l) (upd H l (.lst ys))
/-- of a new list -/
theorem er_tupN {PN : List α → Prop} [Mo R] (ha : EvN M D ta σ H fun p H' => ∃ l, LAt H' p R l ∧ PN l) : Ev M D (tCB (rTupOf K) (tCons ta tNil)) σ H fun v H' => ∃ l, RT R H' v l ∧ PN l := fun H1 e Q q =>
  ha H1 e _ fun p H2 _ e2 ⟨l, ⟨xs, h1, h2⟩, pn⟩ => ⟨p, xs, rfl, .inl ⟨SqL.of h1, fun c hc => q _ _ (e2.new hc) ⟨l, ⟨c, xs, rfl, upd_same, paired_mono (fun _ _ w => Mo.mono (Sta.new hc) w) h2⟩, pn⟩⟩⟩
theorem er_tupL {l : List α} [Mo R] (ha : EvL M D ta σ H R l) : EvR M D (tCB (rTupOf K) (tCons ta tNil)) σ H (RT R) l := fun H1 e Q q =>
  ha H1 e _ fun p H2 _ e2 ⟨xs, h1, h2⟩ => ⟨p, xs, rfl, .inl ⟨SqL.of h1, fun c hc => q _ _ (e2.new hc) ⟨c, xs, rfl, upd_same, paired_mono (fun _ _ w => Mo.mono (Sta.new hc) w) h2⟩⟩⟩
/-- of a list that stands -/
theorem er_tupA {l : List α} {p : Addr} [Mo R] (ha : Ev M D ta σ H fun v _ => v = .ref p) (hl : LAt H p R l) (hm : ¬ M p) (hd : D ≠ some p) : EvR M D (tCB (rTupOf K) (tCons ta tNil)) σ H (RT R) l := fun H1 e Q q =>
  ha H1 e _ fun x H2 e2 px => by
    obtain ⟨xs, h1, h2⟩ := (e.then e2).lat hm hd hl
    exact ⟨p, xs, by rw [px], .inl ⟨SqL.of h1, fun c hc => q _ _ (e2.new hc) ⟨c, xs, rfl, upd_same, paired_mono (fun _ _ w => Mo.mono (Sta.new hc) w) h2⟩⟩⟩
theorem el_list {l : List α} [Mo R] (ha : EvR M D ta σ H (RT R) l) : EvL M D (tCB (rLstOf K) (tCons ta tNil)) σ H R l := fun H1 e Q q =>
  ha H1 e _ fun x H2 e2 ⟨c, xs, e1, h, p⟩ => ⟨c, xs, by rw [e1], .inr (SqT.of h), fun d hd => q d _ (e2.there d hd) (e2.new hd) ⟨xs, upd_same, paired_mono (fun _ _ w => Mo.mono (Sta.new hd) w) p⟩⟩
/-! calls of the text's own defs -/
theorem ev_call {sp : Sp} {ta : TA} {Pa : List V → Hp → Prop} (ha : EvA M D ta σ H Pa) (hs : ∀ vs H1, Ex M D H H1 → Pa vs H1 → ∀ Q : VK, (∀ v H2, Ex M0 D H1 H2 → P v H2 → Q v H2) → sp (vs ++ []) H1 Q E0) : Ev M D (tCall sp [] E0 ta) σ H P := fun H1 e Q q =>
  ha H1 e _ fun vs H2 e2 p => hs vs H2 (e.then e2) p Q fun v H3 e3 r => q v H3 (e2.trans e3) r
theorem en_call {sp : Sp} {ta : TA} {Pa : List V → Hp → Prop} {PN : Addr → Hp → Prop} (ha : EvA M D ta σ H Pa) (hs : ∀ vs H1, Ex M D H H1 → Pa vs H1 → ∀ Q : VK, (∀ p H2, H1 p = none → Ex M0 D H1 H2 → PN p H2 → Q (.ref p) H2) → sp (vs ++ []) H1 Q E0) : EvN M D (tCall sp [] E0 ta) σ H PN := fun H1 e Q q =>
  ha H1 e _ fun vs H2 e2 p => hs vs H2 (e.then e2) p Q fun v H3 hn e3 r => q v H3 (e2.there _ hn) (e2.trans e3) r
/-! what is walked -/
structure WalkX (M : Ads) (D : Option Addr) (J : It) (H0 : Hp) (xs : List α) (R : Rel α) : Prop where
  goes : ∀ i H', i < xs.length → Ex M D H0 H' → J.go i H'
  stops : ∀ H', Ex M D H0 H' → J.stop xs.length H'
  yields : ∀ i H' x H'', i < xs.length → Ex M D H0 H' → J.yld i H' x H'' → Ex M0 D H' H'' ∧ ∃ a, xs[i]? = some a ∧ R H'' x a
def EvI (M : Ads) (D : Option Addr) (wi : TI) (σ : L2.St) (H : Hp) (xs : List α) (R : Rel α) : Prop := ∀ H1, Ex M D H H1 → ∀ Q : It → Hp → Prop, (∀ J H2, Ex M0 D H1 H2 → WalkX M D J H2 xs R → Q J H2) → wi σ H1 Q
theorem wx_tup {a : Addr} {ys : List V} {xs : List α} [Mo R] {H0 : Hp} (h : H0 a = some (.tup ys)) (p : Paired (R H0) ys xs) : WalkX M D (Itt K a) H0 xs R where
  goes := fun i H' hi e => by
    obtain ⟨x, y, h1, h2, h3⟩ := paired_get p hi
    exact ⟨ys, x, SqT.of (e.tups _ _ h), h1⟩
  stops := fun H' e => ⟨ys, SqT.of (e.tups _ _ h), by rw [Paired.length p]; exact Nat.le_refl _⟩
  yields := fun i H' x H'' hi e y => by
    obtain ⟨rfl, f⟩ := y
    obtain ⟨x', y, h1, h2, h3⟩ := paired_get p hi
    have : x = x' := by
      have := f ys (SqT.of (e.tups _ _ h))
      rw [h1] at this
      exact (Option.some.inj this).symm
    exact ⟨Ex.refl e.good.m0, y, h2, by rw [this]; exact e.mo h3⟩
theorem wx_lstG {a : Addr} {ys : List V} {xs : List α} {H0 : Hp} (h : SqL K H0 a ys) (hm : ¬ M a) (hd : D ≠ some a) (p : Paired (R H0) ys xs) (hmo : ∀ H' x a, Ex M D H0 H' → R H0 x a → R H' x a) : WalkX M D (Itl K a) H0 xs R where
  goes := fun i H' hi e => by
    obtain ⟨x, y, h1, h2, h3⟩ := paired_get p hi
    exact ⟨ys, x, e.seqL hm hd h, h1⟩
  stops := fun H' e => ⟨ys, e.seqL hm hd h, by rw [Paired.length p]; exact Nat.le_refl _⟩
  yields := fun i H' x H'' hi e y => by
    obtain ⟨rfl, f⟩ := y
    obtain ⟨x', y, h1, h2, h3⟩ := paired_get p hi
    have : x = x' := by
      have := f ys (e.seqL hm hd h)
      rw [h1] at this
      exact (Option.some.inj this).symm
    exact ⟨Ex.refl e.good.m0, y, h2, by rw [this]; exact hmo _ _ _ e h3⟩
theorem wx_lst {a : Addr} {ys : List V} {xs : List α} [Mo R] {H0 : Hp} (h : SqL K H0 a ys) (hm : ¬ M a) (hd : D ≠ some a) (p : Paired (R H0) ys xs) : WalkX M D (Itl K a) H0 xs R := wx_lstG h hm hd p fun _ _ _ e r => e.mo r
theorem ei_tup {xs : List α} [Mo R] (h : EvR M D ta σ H (RT R) xs) : EvI M D (iTup K ta) σ H xs R := fun H1 e Q q =>
  h H1 e _ fun v H2 e2 ⟨a, ys, e1, h1, p⟩ => ⟨a, e1, ⟨ys, SqT.of h1⟩, q _ H2 e2 (wx_tup h1 p)⟩
/-- a new list -/
theorem ei_new {xs : List α} [Mo R] (h : EvL M D ta σ H R xs) : EvI M D (iList K ta) σ H xs R := fun H1 e Q q =>
  h H1 e _ fun p H2 hn e2 ⟨ys, h1, pr⟩ => ⟨p, rfl, ⟨ys, SqL.of h1⟩, q _ H2 e2 (wx_lst (SqL.of h1) (fun z => e.good.live p z hn) (fun z => by
    obtain ⟨_, _, _, w⟩ := e.good.dice p z
    rw [hn] at w
    cases w) pr)⟩
/-- a list that stands -/
theorem ei_lst {xs : List α} {p : Addr} [Mo R] (ha : Ev M D ta σ H fun v _ => v = .ref p) (hl : LAt H p R xs) (hm : ¬ M p) (hd : D ≠ some p) : EvI M D (iList K ta) σ H xs R := fun H1 e Q q =>
  ha H1 e _ fun v H2 e2 pv => by
    obtain ⟨ys, h1, h2⟩ := (e.then e2).lat hm hd hl
    exact ⟨p, pv, ⟨ys, SqL.of h1⟩, q _ H2 e2 (wx_lst (SqL.of h1) hm hd h2)⟩
/-- range(n), range(lo, n), downward -/
theorem wx_rng {lo : Int} {n : Nat} {H0 : Hp} : WalkX M D (Itr lo n) H0 ((List.range n).map fun (i : Nat) => lo + (i : Int)) RI where
  goes := fun i H' hi e => by show i < n; simpa using hi
  stops := fun H' e => by show n ≤ _; simp
  yields := fun i H' x H'' hi e y => by
    obtain ⟨rfl, rfl⟩ := y
    have hi : i < n := by simpa using hi
    exact ⟨Ex.refl e.good.m0, lo + (i : Int), by rw [List.getElem?_map, List.getElem?_range hi]; rfl, rfl⟩
theorem wx_rngN {n : Nat} {H0 : Hp} : WalkX M D (Itr 0 n) H0 (List.range n) RN where
  goes := fun i H' hi e => by show i < n; simpa using hi
  stops := fun H' e => by show n ≤ _; simp
  yields := fun i H' x H'' hi e y => by
    obtain ⟨rfl, rfl⟩ := y
    have hi : i < n := by simpa using hi
    refine ⟨Ex.refl e.good.m0, i, by rw [List.getElem?_range hi], ?_⟩
    show V.int (0 + (i : Int)) = V.int (i : Int)
    rw [Int.zero_add]
theorem wx_rngC {lo c : Int} {n : Nat} {H0 : Hp} : WalkX M D (Itc lo c n) H0 ((List.range n).map fun (i : Nat) => lo + (i : Int) * c) RI where
  goes := fun i H' hi e => by show i < n; simpa using hi
  stops := fun H' e => by show n ≤ _; simp
  yields := fun i H' x H'' hi e y => by
    obtain ⟨rfl, rfl⟩ := y
    have hi : i < n := by simpa using hi
    exact ⟨Ex.refl e.good.m0, lo + (i : Int) * c, by rw [List.getElem?_map, List.getElem?_range hi]; rfl, rfl⟩
theorem wx_rngR {n : Nat} {H0 : Hp} : WalkX M D (Itc (n : Int) (-1) (n + 1)) H0 (List.range (n + 1)).reverse RN where
  goes := fun i H' hi e => by show i < n + 1; simpa using hi
  stops := fun H' e => by show n + 1 ≤ _; simp
  yields := fun i H' x H'' hi e y => by
    obtain ⟨rfl, rfl⟩ := y
    have hi : i < n + 1 := by simpa using hi
    refine ⟨Ex.refl e.good.m0, n - i, ?_, ?_⟩
    · rw [List.getElem?_reverse (by simpa using hi), List.getElem?_range (by simp; omega)]
      simp
    · show V.int ((n : Int) + (i : Int) * -1) = V.int ((n - i : Nat) : Int)
      congr 1
      omega
/-- range(n, -1, -1) -/
theorem ei_rngR {n : Nat} {lo hi : Int} (ha : EvR M D ta σ H RI lo) (hb : EvR M D tb σ H RI hi) (hc : EvR M D tc σ H RI (-1)) (e1 : lo = (n : Int)) (e2 : hi = -1) (b : n < 100000) : EvI M D (iRng3 (tCons ta (tCons tb (tCons tc tNil)))) σ H (List.range (n + 1)).reverse RN := fun H1 e Q q =>
  ha H1 e _ fun v H2 e2' p => hb H2 (e.then e2') _ fun w H3 e3 p' => hc H3 ((e.then e2').then e3) _ fun y H4 e4 p'' =>
    ⟨lo, hi, -1, n + 1, by rw [show v = .int lo from p, show w = .int hi from p', show y = .int (-1) from p''], by
      have := RgC.neg (i := lo) (j := hi) (by omega) (by omega) (by omega) (by omega)
      rw [show (lo - hi).toNat = n + 1 by omega] at this
      exact this, by rw [e1]; exact q _ H4 ((e2'.trans e3).trans e4) wx_rngR⟩
theorem ei_rng1 {n : Nat} {i : Int} (h : EvR M D ta σ H RI i) (hi : i = (n : Int)) (hn : n < 1000000) : EvI M D (iRng1 (tCons ta tNil)) σ H (List.range n) RN := fun H1 e Q q =>
  h H1 e _ fun v H2 e2 p => ⟨i, by rw [show v = .int i from p], by omega, by omega, by rw [show i.toNat = n by omega]; exact q _ H2 e2 wx_rngN⟩
theorem ei_rng2 {lo hi : Int} (ha : EvR M D ta σ H RI lo) (hb : EvR M D tb σ H RI hi) (b : -1000000 < lo ∧ lo < 1000000 ∧ -1000000 < hi ∧ hi < 1000000) : EvI M D (iRng2 (tCons ta (tCons tb tNil))) σ H ((List.range (hi - lo).toNat).map fun (i : Nat) => lo + (i : Int)) RI := fun H1 e Q q =>
  ha H1 e _ fun v H2 e2 p => hb H2 (e.then e2) _ fun w H3 e3 p' => ⟨lo, hi, by rw [show v = .int lo from p, show w = .int hi from p'], by omega, q _ H3 (e2.trans e3) wx_rng⟩
theorem ei_rngD {lo hi : Int} (ha : EvR M D ta σ H RI lo) (hb : EvR M D tb σ H RI hi) (hc : EvR M D tc σ H RI (-1)) (b : -1000000 < lo ∧ lo < 1000000 ∧ -1000000 < hi ∧ hi < 1000000) : EvI M D (iRng3 (tCons ta (tCons tb (tCons tc tNil)))) σ H ((List.range (lo - hi).toNat).map fun (i : Nat) => lo + (i : Int) * -1) RI := fun H1 e Q q =>
  ha H1 e _ fun v H2 e2 p => hb H2 (e.then e2) _ fun w H3 e3 p' => hc H3 ((e.then e2).then e3) _ fun y H4 e4 p'' =>
    ⟨lo, hi, -1, (lo - hi).toNat, by rw [show v = .int lo from p, show w = .int hi from p', show y = .int (-1) from p''], RgC.neg (by omega) (by omega) (by omega) (by omega), q _ H4 ((e2.trans e3).trans e4) wx_rngC⟩
/-- zip of two tuples -/
theorem paired_zip {F : V → α → Prop} {G : V → β → Prop} {xs ys : List V} {l : List α} {m : List β} (p : Paired F xs l) (q : Paired G ys m) {i : Nat} (hi : i < (l.zip m).length) : ∃ x y a b, xs[i]? = some x ∧ ys[i]? = some y ∧ (l.zip m)[i]? = some (a, b) ∧ F x a ∧ G y b := by
  rw [List.length_zip] at hi
  obtain ⟨x, a, h1, h2, h3⟩ := paired_get p (i := i) (by omega)
  obtain ⟨y, b, k1, k2, k3⟩ := paired_get q (i := i) (by omega)
  exact ⟨x, y, a, b, h1, k1, by rw [List.getElem?_zip_eq_some]; exact ⟨h2, k2⟩, h3, k3⟩
theorem wx_zipT {a b : Addr} {ys zs : List V} {l : List α} {m : List β} [Mo R] [Mo S] {H0 : Hp} (h : H0 a = some (.tup ys)) (k : H0 b = some (.tup zs)) (p : Paired (R H0) ys l) (q : Paired (S H0) zs m) : WalkX M D (RZ.ItzT K a b) H0 (l.zip m) (RP R S) where
  goes := fun i H' hi e => by
    obtain ⟨x, y, _, _, h1, h2, _⟩ := paired_zip p q hi
    exact ⟨ys, zs, x, y, SqT.of (e.tups _ _ h), SqT.of (e.tups _ _ k), h1, h2⟩
  stops := fun H' e => ⟨ys, zs, SqT.of (e.tups _ _ h), SqT.of (e.tups _ _ k), by rw [List.length_zip, Paired.length p, Paired.length q]; omega⟩
  yields := fun i H' x H'' hi e y => by
    obtain ⟨T, x1, y1, rfl, hT, rfl, f1, f2⟩ := y
    obtain ⟨x, y, a', b', h1, h2, h3, h4, h5⟩ := paired_zip p q hi
    have e1 := f1 ys (SqT.of (e.tups _ _ h))
    have e2 := f2 zs (SqT.of (e.tups _ _ k))
    rw [h1] at e1
    rw [h2] at e2
    cases e1
    cases e2
    have ex := (Ex.refl e.good.m0).new (o := .tup [x1, y1]) hT
    exact ⟨ex, (a', b'), h3, T, x1, y1, rfl, upd_same, ex.mo (e.mo h4), ex.mo (e.mo h5)⟩
theorem ei_zipT {l : List α} {m : List β} [Mo R] [Mo S] (ha : EvR M D ta σ H (RT R) l) (hb : EvR M D tb σ H (RT S) m) : EvI M D (RZ.iZipA K (tCons ta (tCons tb tNil))) σ H (l.zip m) (RP R S) := fun H1 e Q q =>
  ha H1 e _ fun v H2 e2 pv => hb H2 (e.then e2) _ fun w H3 e3 ⟨b, zs, e5, h2, p2⟩ => by
    obtain ⟨a, ys, e4, h1, p1⟩ := e3.mo pv
    exact ⟨a, b, ys, zs, by rw [e4, e5], .inr ⟨SqT.of h1, SqT.of h2, q _ H3 (e2.trans e3) (wx_zipT h1 h2 p1 p2)⟩⟩
/-! comprehensions -/
/-- what the target's store leaves -/
structure Tgt (g : TG) (vs : List Nat) (σ : L2.St) (H : Hp) (v : V) (σ2 : L2.St) : Prop where
  run : ∀ Q : L2.St → Hp → Prop, Q σ2 H → g v (wipe σ vs) H Q
  back : wipe σ2 vs = wipe σ vs
theorem en_lc {wi : TI} {g : TG} {tt : TT} {vs : List Nat} {xs : List α} [Mo S] (G : Nat → List β → Prop) (hI : EvI M D wi σ H xs R) (hz : xs.length < 100000) (g0 : G 0 []) (hlen : ∀ i l, G i l → l.length ≤ i)
    (hs : ∀ (i : Nat) x a l H', xs[i]? = some a → Ex M D H H' → R H' x a → G i l → ∃ σ2, Tgt g vs σ H' x σ2 ∧ ∃ b : Bool → Prop, EvT M D tt σ2 H' b ∧
      (b true → Ev M D te σ2 H' fun y H'' => ∃ c, S H'' y c ∧ G (i + 1) (l ++ [c])) ∧ (b false → G (i + 1) l)) :
    EvN M D (tLc wi g tt te vs) σ H fun p H' => ∃ l, LAt H' p S l ∧ G xs.length l := fun H1 e Q q =>
  hI H1 e _ fun J H2 e2 w p hp => by
    have e12 : Ex M D H H2 := e.then e2
    have npD : D ≠ some p := fun z => by
      obtain ⟨_, _, _, w⟩ := e12.good.dice p z
      rw [hp] at w
      cases w
    refine ⟨fun i m H' => m = xs.length - i ∧ i ≤ xs.length ∧ Ex M D H2 H' ∧ Ex M0 D H2 H' ∧ ∃ l, LAt H' p S l ∧ G i l, ⟨xs.length, by omega, Nat.zero_le _, (Ex.refl e12.good).new hp, (Ex.refl e12.good.m0).new hp, [], ⟨[], upd_same, .nil⟩, g0⟩, ?_⟩
    rintro i m H' ⟨rfl, hi, e3, e30, l, hl, gl⟩
    by_cases hlt : i < xs.length
    · refine .inr ⟨w.goes i H' hlt e3, fun H'' => Ex M D H2 H'' ∧ Ex M0 D H2 H'' ∧ ∃ l, LAt H'' p S l ∧ G (i + 1) l, fun H'' ⟨a1, a2, a3⟩ => ⟨xs.length - (i + 1), by omega, rfl, hlt, a1, a2, a3⟩, fun x H4 hy => ?_⟩
      obtain ⟨e4, a, hxa, r⟩ := w.yields i H' x H4 hlt e3 hy
      have e5 : Ex M D H H4 := (e12.trans e3).then e4
      obtain ⟨σ2, tg, b, ht, hyes, hno⟩ := hs i x a l H4 hxa e5 r gl
      refine tg.run _ ⟨tg.back, ht H4 (Ex.refl e5.good) _ fun c H5 e6 pc => ?_⟩
      have l5 := e6.lat (fun z => z) npD (e4.lat (fun z => z) npD hl)
      cases c with
      | true =>
        show te σ2 H5 _
        refine hyes pc H5 ((Ex.refl e5.good).then e6) _ fun y H6 e7 ⟨c, sc, gc⟩ => ?_
        obtain ⟨acc, ha6, pa6⟩ := e7.lat (fun z => z) npD l5
        have e8 : Ex M0 D H2 H6 := ((e30.trans e4).trans e6).trans e7
        have e9 : Ex M D H2 H6 := (e3.then (e4.trans e6)).then e7
        have tk : Sta H6 (upd H6 p (.lst (acc ++ [y]))) := Sta.put ha6 rfl (fun z => nomatch z)
        have key : ∀ {N : Ads}, Ex N D H2 H6 → Ex N D H2 (upd H6 p (.lst (acc ++ [y]))) := fun {N} eg => by
          refine ⟨fun c o h1 h2 h3 => ?_, eg.sta.trans tk, fun c h3 => ?_, ⟨fun c hc => ?_, fun c hc => ?_⟩⟩
          · rw [upd_ne (ne_of_none h3 hp)]; exact eg.keep c o h1 h2 h3
          · by_cases z : c = p
            · subst z; exact hp
            · rw [upd_ne z] at h3; exact eg.there c h3
          · by_cases z : c = p
            · subst z; rw [upd_same]; exact fun w => nomatch w
            · rw [upd_ne z]; exact eg.good.live c hc
          · obtain ⟨a1, a2, a3, hd⟩ := eg.good.dice c hc
            exact ⟨a1, a2, a3, by rw [upd_ne (fun z => npD (by rw [← z]; exact hc))]; exact hd⟩
        refine ⟨acc, ha6, sz_lt (by have := hlen _ _ gl; have := Paired.length pa6; omega), key e9, key e8, l ++ [c], ⟨acc ++ [y], upd_same, ?_⟩, gc⟩
        exact paired_app (paired_mono (fun _ _ w => Mo.mono tk w) pa6) (.cons (Mo.mono tk sc) .nil)
      | false => exact ⟨(e3.then e4).then e6, (e30.trans e4).trans e6, l, l5, hno pc⟩
    · have ei : i = xs.length := by omega
      subst ei
      exact .inl ⟨w.stops H' e3, q p H' (e2.there p hp) (e2.trans e30) ⟨l, hl, gl⟩⟩
theorem take_step {xs : List α} {i : Nat} {a : α} (h : xs[i]? = some a) : xs.take (i + 1) = xs.take i ++ [a] := by rw [List.take_succ, h]; rfl
/-- the same, all told -/
theorem el_lc {wi : TI} {g : TG} {tt : TT} {vs : List Nat} {xs : List α} [Mo S] (f : α → Bool) (val : α → β) (hI : EvI M D wi σ H xs R) (hz : xs.length < 100000)
    (hs : ∀ (i : Nat) x a H', xs[i]? = some a → Ex M D H H' → R H' x a → ∃ σ2, Tgt g vs σ H' x σ2 ∧ EvB M D tt σ2 H' (f a) ∧ (f a = true → EvR M D te σ2 H' S (val a))) :
    EvL M D (tLc wi g tt te vs) σ H S ((xs.filter f).map val) := by
  have key := en_lc (M := M) (D := D) (σ := σ) (H := H) (te := te) (S := S) (g := g) (tt := tt) (vs := vs) (fun i l => l = ((xs.take i).filter f).map val) hI hz rfl (fun i l h => by
    rw [h, List.length_map]
    refine Nat.le_trans (List.length_filter_le _ _) ?_
    rw [List.length_take]
    omega) (fun i x a l H' hx e r gl => ?_)
  · intro H1 e Q q
    refine key H1 e Q fun p H2 hn e2 ⟨l, h1, h2⟩ => q p H2 hn e2 ?_
    rw [List.take_length] at h2
    rw [← h2]
    exact h1
  · obtain ⟨σ2, tg, ht, hv⟩ := hs i x a H' hx e r
    refine ⟨σ2, tg, _, ht, fun hb => (hv hb.symm).imp fun y H'' p => ⟨val a, p, ?_⟩, fun hb => ?_⟩
    · rw [take_step hx, List.filter_append, List.map_append, ← gl, List.filter_cons, if_pos hb.symm]
      rfl
    · rw [take_step hx, List.filter_append, List.map_append, ← gl, List.filter_cons, if_neg (by rw [← hb]; decide)]
      simp
/-- the target a name -/
theorem tgt_name {vs : List Nat} {j : Nat} {v : V} {H : Hp} (hw : ∀ x, wipe ((wipe σ vs).set j (some x)) vs = wipe σ vs) : Tgt (gName j) vs σ H v ((wipe σ vs).set j (some v)) := ⟨fun _ q => q, hw v⟩
/-- the target a pair of names -/
theorem tgt_pair {vs : List Nat} {i j : Nat} {v : V} {p : α × β} {H : Hp} (r : RP R S H v p) (hw : ∀ x y, wipe (((wipe σ vs).set i (some x)).set j (some y)) vs = wipe σ vs) :
    ∃ x y, R H x p.1 ∧ S H y p.2 ∧ Tgt (gTup K 2 (gCons (gName i) (gCons (gName j) gNil))) vs σ H v (((wipe σ vs).set i (some x)).set j (some y)) := by
  obtain ⟨a, x, y, e, h, r1, r2⟩ := r
  exact ⟨x, y, r1, r2, fun _ q => ⟨a, [x, y], e, SqT.of h, rfl, x, [y], rfl, y, [], rfl, rfl, q⟩, hw x y⟩
/-- no test -/
theorem el_map {wi : TI} {g : TG} {vs : List Nat} {xs : List α} [Mo S] (val : α → β) (hI : EvI M D wi σ H xs R) (hz : xs.length < 100000)
    (hs : ∀ (i : Nat) x a H', xs[i]? = some a → Ex M D H H' → R H' x a → ∃ σ2, Tgt g vs σ H' x σ2 ∧ EvR M D te σ2 H' S (val a)) :
    EvL M D (tLc wi g tYes te vs) σ H S (xs.map val) := by
  have q := el_lc (M := M) (D := D) (σ := σ) (H := H) (te := te) (tt := tYes) (g := g) (vs := vs) (S := S) (fun _ => true) val hI hz fun i x a H' h1 h2 h3 => by
    obtain ⟨σ2, tg, h⟩ := hs i x a H' h1 h2 h3
    exact ⟨σ2, tg, et_yes, fun _ => h⟩
  rw [List.filter_eq_self.mpr (fun _ _ => rfl)] at q
  exact q
/-- all, any of a new list of truth values -/
theorem paired_bls : ∀ {xs : List V} {l : List Bool}, Paired (RB H) xs l → xs = l.map V.bl
  | _, _, .nil => rfl
  | _, _, .cons r t => by rw [show _ = V.bl _ from r, paired_bls t]; rfl
theorem er_all {bs : List Bool} (h : EvL M D te σ H RB bs) : EvR M D (tCB (rAll K) (tCons te tNil)) σ H RB (bs.all id) := fun H1 e Q q =>
  h H1 e _ fun p H2 hn e2 ⟨xs, h1, h2⟩ => ⟨p, bs, rfl, by rw [← paired_bls h2]; exact SqL.of h1, q _ H2 e2 rfl⟩
theorem er_any {bs : List Bool} (h : EvL M D te σ H RB bs) : EvR M D (tCB (rAny K) (tCons te tNil)) σ H RB (bs.any id) := fun H1 e Q q =>
  h H1 e _ fun p H2 hn e2 ⟨xs, h1, h2⟩ => ⟨p, bs, rfl, by rw [← paired_bls h2]; exact SqL.of h1, q _ H2 e2 rfl⟩
/-- a pair's target, whatever the item -/
theorem tg_pair {vs : List Nat} {i j : Nat} {v : V} {p : α × β} {H : Hp} (r : RP R S H v p) (hw : ∀ x y, wipe (((wipe σ vs).set i (some x)).set j (some y)) vs = wipe σ vs) {G : L2.St → Prop}
    (h : ∀ x y, R H x p.1 → S H y p.2 → G (((wipe σ vs).set i (some x)).set j (some y))) : ∃ σ2, Tgt (gTup K 2 (gCons (gName i) (gCons (gName j) gNil))) vs σ H v σ2 ∧ G σ2 := by
  obtain ⟨x, y, r1, r2, t⟩ := tgt_pair (K := K) r hw
  exact ⟨_, t, h x y r1 r2⟩
theorem tg_name {vs : List Nat} {j : Nat} {v : V} {H : Hp} (hw : ∀ x, wipe ((wipe σ vs).set j (some x)) vs = wipe σ vs) {G : L2.St → Prop} (h : G ((wipe σ vs).set j (some v))) : ∃ σ2, Tgt (gName j) vs σ H v σ2 ∧ G σ2 := ⟨_, tgt_name hw, h⟩
/-! ### statements -/
section
variable {B : Ends} {tz tu tw : TS} {H0 : Hp} {PN : Addr → Hp → Prop} {p : Bool → Prop}
theorem s_ret (e : Ex M D H0 H) (h : Ev M D te σ H0 P) (k : ∀ v H2, Ex M0 D H H2 → P v H2 → B.rt v H2) : tRet te B σ H := h H e _ k
theorem s_retN (e : Ex M D H0 H) (h : EvN M D te σ H0 PN) (k : ∀ a H2, H a = none → Ex M0 D H H2 → PN a H2 → B.rt (.ref a) H2) : tRet te B σ H := h H e _ k
theorem q_set {i : Nat} (e : Ex M D H0 H) (h : Ev M D te σ H0 P) (k : ∀ v H2, Ex M0 D H H2 → P v H2 → tz B (σ.set i (some v)) H2) : tSeq (tAsg te (gName i)) tz B σ H := h H e _ k
theorem q_new {i : Nat} (e : Ex M D H0 H) (h : EvN M D te σ H0 PN) (k : ∀ a H2, H a = none → Ex M0 D H H2 → PN a H2 → tz B (σ.set i (some (.ref a))) H2) : tSeq (tAsg te (gName i)) tz B σ H := h H e _ k
theorem s_set {i : Nat} (e : Ex M D H0 H) (h : Ev M D te σ H0 P) (k : ∀ v H2, Ex M0 D H H2 → P v H2 → B.nx (σ.set i (some v)) H2) : tAsg te (gName i) B σ H := h H e _ k
theorem q_if (e : Ex M D H0 H) (h : EvT M D t σ H0 p) (h1 : p true → ∀ H2, Ex M0 D H H2 → tu { B with nx := tz B } σ H2) (h2 : p false → ∀ H2, Ex M0 D H H2 → tw { B with nx := tz B } σ H2) : tSeq (tIfS t tu tw) tz B σ H := h H e _ fun b H2 e2 pb => by
  cases b with
  | true => exact h1 pb H2 e2
  | false => exact h2 pb H2 e2
/-- an if without else -/
theorem q_when (e : Ex M D H0 H) (h : EvT M D t σ H0 p) (h1 : p true → ∀ H2, Ex M0 D H H2 → tu { B with nx := tz B } σ H2) (h2 : p false → ∀ H2, Ex M0 D H H2 → tz B σ H2) : tSeq (tIfS t tu tNext) tz B σ H := q_if e h h1 h2
theorem s_when (e : Ex M D H0 H) (h : EvT M D t σ H0 p) (h1 : p true → ∀ H2, Ex M0 D H H2 → tu B σ H2) (h2 : p false → ∀ H2, Ex M0 D H H2 → B.nx σ H2) : tIfS t tu tNext B σ H := h H e _ fun b H2 e2 pb => by
  cases b with
  | true => exact h1 pb H2 e2
  | false => exact h2 pb H2 e2
theorem s_if (e : Ex M D H0 H) (h : EvT M D t σ H0 p) (h1 : p true → ∀ H2, Ex M0 D H H2 → tu B σ H2) (h2 : p false → ∀ H2, Ex M0 D H H2 → tw B σ H2) : tIfS t tu tw B σ H := h H e _ fun b H2 e2 pb => by
  cases b with
  | true => exact h1 pb H2 e2
  | false => exact h2 pb H2 e2
theorem q_drop (e : Ex M D H0 H) (h : Ev M D te σ H0 P) (k : ∀ v H2, Ex M0 D H H2 → P v H2 → tz B σ H2) : tSeq (tDrop te) tz B σ H := h H e _ k
/-- a, b = e1, e2 -/
theorem q_par {i j : Nat} {ta : TA} {Pa : List V → Hp → Prop} (e : Ex M D H0 H) (h : EvA M D ta σ H0 Pa) (k : ∀ vs H2, Ex M0 D H H2 → Pa vs H2 → ∃ v w, vs = [v, w] ∧ tz B ((σ.set i (some v)).set j (some w)) H2) : tSeq (tPar i j ta) tz B σ H := h H e _ k
/-- a loop -/
theorem f_for {wi : TI} {g : TG} {xs : List α} {Bk Nx : L2.St → Hp → Prop} {Rt : VK} {Ct0 : L2.St → Hp → Prop} (e : Ex M D H0 H) (hI : EvI M D wi σ H0 xs R) (Pv : Nat → L2.St → Hp → Prop) (h0 : Pv 0 σ H) (hm : ∀ i σ' H' H'', Pv i σ' H' → Ex M0 D H' H'' → Pv i σ' H'')
    (hs : ∀ (i : Nat) x a σ' H', xs[i]? = some a → Ex M D H H' → R H' x a → Pv i σ' H' → ∀ N : L2.St → Hp → Prop, (∀ σ3 H3, Ex M D H' H3 → Pv (i + 1) σ3 H3 → N σ3 H3) → g x σ' H' fun σ2 H2 => tu { nx := N, rt := Rt, ct := N, bk := Nx } σ2 H2)
    (hd : ∀ σ' H', Ex M D H H' → Pv xs.length σ' H' → Nx σ' H') : tFor wi g tu { nx := Nx, rt := Rt, bk := Bk, ct := Ct0 } σ H := hI H e _ fun J H2 e2 w => by
  have e1 : Ex M D H H := Ex.refl e.good
  have e12 : Ex M D H H2 := e1.then e2
  refine ⟨fun i m σ' H' => m = xs.length - i ∧ i ≤ xs.length ∧ Ex M D H2 H' ∧ Pv i σ' H', ⟨xs.length, by omega, Nat.zero_le _, Ex.refl e12.good, hm _ _ _ _ h0 e2⟩, ?_⟩
  rintro i m σ' H' ⟨rfl, hi, e3, pv⟩
  by_cases hlt : i < xs.length
  · refine .inr ⟨w.goes i H' hlt e3, fun σ3 H3 => Ex M D H2 H3 ∧ Pv (i + 1) σ3 H3, fun σ3 H3 ⟨a1, a2⟩ => ⟨xs.length - (i + 1), by omega, rfl, hlt, a1, a2⟩, fun x H4 hy => ?_⟩
    obtain ⟨e4, a, hxa, r⟩ := w.yields i H' x H4 hlt e3 hy
    have e24 : Ex M D H2 H4 := e3.then e4
    exact hs i x a σ' H4 hxa (e12.trans e24) r (hm _ _ _ _ pv e4) _ fun σ3 H3 h1 h2 => ⟨e24.trans h1, h2⟩
  · have ei : i = xs.length := by omega
    subst ei
    exact .inl ⟨w.stops H' e3, hd _ _ (e12.trans e3) pv⟩
/-- .. with something behind -/
theorem q_for {wi : TI} {g : TG} {xs : List α} (e : Ex M D H0 H) (hI : EvI M D wi σ H0 xs R) (Pv : Nat → L2.St → Hp → Prop) (h0 : Pv 0 σ H) (hm : ∀ i σ' H' H'', Pv i σ' H' → Ex M0 D H' H'' → Pv i σ' H'')
    (hs : ∀ (i : Nat) x a σ' H', xs[i]? = some a → Ex M D H H' → R H' x a → Pv i σ' H' → ∀ N : L2.St → Hp → Prop, (∀ σ3 H3, Ex M D H' H3 → Pv (i + 1) σ3 H3 → N σ3 H3) → g x σ' H' fun σ2 H2 => tu { nx := N, rt := B.rt, ct := N, bk := tz B } σ2 H2)
    (hd : ∀ σ' H', Ex M D H H' → Pv xs.length σ' H' → tz B σ' H') : tSeq (tFor wi g tu) tz B σ H := f_for (Bk := B.bk) (Ct0 := B.ct) e hI Pv h0 hm hs hd
/-- the target's store in a loop -/
theorem g_name {j : Nat} {x : V} {σ' : L2.St} {H' : Hp} {k : L2.St → Hp → Prop} (h : k (σ'.set j (some x)) H') : gName j x σ' H' k := h
theorem g_pair {i j : Nat} {x : V} {q : α × β} {σ' : L2.St} {H' : Hp} {k : L2.St → Hp → Prop} (r : RP R S H' x q) (h : ∀ v w, R H' v q.1 → S H' w q.2 → k ((σ'.set i (some v)).set j (some w)) H') : gTup K 2 (gCons (gName i) (gCons (gName j) gNil)) x σ' H' k := by
  obtain ⟨a, v, w, e, hh, r1, r2⟩ := r
  exact ⟨a, [v, w], e, SqT.of hh, rfl, v, [w], rfl, w, [], rfl, rfl, h v w r1 r2⟩
/-- l.append(e), l a list of M -/
theorem ev_app {l : List α} {p : Addr} {a : α} [Mo R] (hv : Ev M0 D ta σ H fun v _ => v = .ref p) (hl : LAt H p R l) (hz : l.length < 100000) (hp : M p) (hd : D ≠ some p) (g : Good M D H) (h : EvR M0 D te σ H R a) (k : ∀ H2, Ex M D H H2 → LAt H2 p R (l ++ [a]) → B.nx σ H2) : tDrop (tBM K "list" rAppend ta (tCons te tNil)) B σ H := hv H (Ex.refl g.m0) _ fun x H1 e1 px => by
  obtain ⟨xs, h1, h2⟩ := e1.lat (fun z => z) hd hl
  subst px
  refine ⟨.inl ⟨rfl, xs, SqL.of h1⟩, h H1 e1 _ fun y H2 e2 py => ?_⟩
  obtain ⟨xs2, h3, h4⟩ := e2.lat (fun z => z) hd (e1.lat (fun z => z) hd hl)
  refine ⟨p, xs2, y, rfl, rfl, h3, sz_lt (by rw [Paired.length h4]; exact hz), k _ (((e1.trans e2).up g).put hp hd h3 rfl (fun z => nomatch z)) ?_⟩
  have tk : Sta H2 (upd H2 p (.lst (xs2 ++ [y]))) := Sta.put h3 rfl (fun z => nomatch z)
  exact ⟨xs2 ++ [y], upd_same, paired_app (paired_mono (fun _ _ w => Mo.mono tk w) h4) (.cons (Mo.mono tk py) .nil)⟩
/-- l[i] = e, l a list of M -/
theorem ev_put {l : List α} {p : Addr} {a : α} {i : Int} {j : Nat} [Mo R] (h : EvR M0 D te σ H R a) (hv : Ev M0 D ta σ H fun v _ => v = .ref p) (hi : EvR M0 D tb σ H RI i) (hl : LAt H p R l) (hj : j < l.length) (hij : i = (j : Int)) (hp : M p) (hd : D ≠ some p) (g : Good M D H) (k : ∀ H2, Ex M D H H2 → LAt H2 p R (l.set j a) → B.nx σ H2) : tAsg te (gSub ta tb rSetL) B σ H := h H (Ex.refl g.m0) _ fun y H1 e1 py => hv H1 e1 _ fun x H2 e2 px => hi H2 (e1.trans e2) _ fun z H3 e3 pz => by
  obtain ⟨xs, h1, h2⟩ := (e1.trans (e2.trans e3)).lat (fun z => z) hd hl
  refine ⟨p, xs, i, j, px, pz, h1, ?_, k _ ((((e1.trans e2).trans e3).up g).put hp hd h1 rfl (fun z => nomatch z)) ?_⟩
  · rw [hij]
    have := Paired.length h2
    unfold ixN
    rw [if_pos (by omega)]
    simp
    omega
  · have tk : Sta H3 (upd H3 p (.lst (xs.set j y))) := Sta.put h1 rfl (fun z => nomatch z)
    exact ⟨xs.set j y, upd_same, paired_set (Mo.mono tk ((e2.trans e3).mo py)) j (paired_mono (fun _ _ w => Mo.mono tk w) h2)⟩
end
end
end KX
namespace KX
open PySem PySem.Spec PyProof.Rows L2
/-! ### enumerate of a tuple -/
theorem meets_enumT (l : Addr) (items : Array Value) (n : Nat) (dct : Option Addr) (sl : Array (Option Value)) :
    Meets (Builtin.«enumerate.__new__» ⟨[.type "enumerate", .ref l], []⟩) (fun _ R s => s.heap.get? l = some { cls := .type "tuple", dict := dct, data := .seq items n, slots := sl } ∧
      R (.ok (.ret (.ref (s.heap.push { cls := .type "tuple_iterator", data := .fields #[.ref l, .int 0 0] }).objs.size)))
        { s with heap := (s.heap.push { cls := .type "tuple_iterator", data := .fields #[.ref l, .int 0 0] }).push { cls := .type "enumerate", data := .fields #[.none, .bool false, .ref s.heap.objs.size, rawInt 0, .none, .none] } }) :=
  .of_wp fun prog w A R s h => by
    obtain ⟨hp, g, d, tk, os⟩ := s
    obtain ⟨hl, h⟩ := h
    have hsub := sub_enumerate
    have hT : PySem.Heap.IsTuple (Shared.heap ⟨hp, g, d, tk, os⟩) l items := ⟨_, hl, rfl, n, rfl⟩
    wp_walk using AutoSeq1.wpAny_loadPart' hl
    refine wpAny_stack_any fun st => wpAny_pure ?_
    split
    · rename_i c _ _ _ _ _
      cases (c == Value.type "enumerate") <;> (wp_walk using AutoSeq1.wpAny_loadPart' hl, wpAny_pyIter_tuple hT; exact ⟨_, rfl, h⟩)
    · wp_walk using AutoSeq1.wpAny_loadPart' hl, wpAny_pyIter_tuple hT
      exact ⟨_, rfl, h⟩
section
variable {prog : Program} {w : World} {A : Around} {E : Value → Shared → Prop} {s : Shared}
theorem call_enumT {l : Addr} {items : Array Value} {Q : Value → Shared → Prop} (hL : s.heap.IsTuple l items)
    (h : ∀ h', IsEnum h' (s.heap.objs.size + 1) s.heap.objs.size 0 .none → h'.IsTupleIter s.heap.objs.size l 0 → (∀ b o, s.heap.get? b = some o → h'.get? b = some o) → Q (.ref (s.heap.objs.size + 1)) { s with heap := h' }) :
    wpAny (model prog w) A (call (.type "enumerate") [.ref l]) Q E s := by
  obtain ⟨⟨c, dct, dt, sl⟩, hl, hc, n, hd⟩ := hL
  replace hc : c = .type "tuple" := hc
  replace hd : dt = .seq items n := hd
  subst hc hd
  refine callType_new F.called_enumerate (by decide) (F.typeCall_enumerate_1 _) (F.newCall_enumerate_1 _) (fun obj => F.args_object_init_2 obj _) F.entry_enumerate_new (meets_enumT l items n dct sl) ⟨hl, ?_⟩
  have hz : (s.heap.push { cls := .type "tuple_iterator", data := .fields #[.ref l, .int 0 0] }).objs.size = s.heap.objs.size + 1 := Heap.size_push ..
  show _ ∧ _
  rw [hz]
  have he : IsEnum ((s.heap.push { cls := .type "tuple_iterator", data := .fields #[.ref l, .int 0 0] }).push
      { cls := .type "enumerate", data := .fields #[.none, .bool false, .ref s.heap.objs.size, rawInt 0, .none, .none] }) (s.heap.objs.size + 1) s.heap.objs.size 0 .none := by
    have q := Heap.get?_push_size (s.heap.push { cls := .type "tuple_iterator", data := .fields #[.ref l, .int 0 0] }) (o := { cls := .type "enumerate", data := .fields #[.none, .bool false, .ref s.heap.objs.size, rawInt 0, .none, .none] }) rfl
    rw [hz] at q
    exact q
  exact ⟨⟨_, he, rfl⟩, h _ he ⟨_, Heap.get?_push_of_some _ (Heap.get?_push_size _ rfl), rfl, rfl⟩ fun b o x => Heap.get?_push_of_some _ (Heap.get?_push_of_some _ x)⟩
end
def IteT (K : PySem.W.Frag) (a : Addr) : It :=
  ⟨fun i H => ∃ (xs : List V) (x : V), SqT K H a xs ∧ xs[i]? = some x, fun i H v H' => ∃ T x, v = .ref T ∧ H T = none ∧ H' = upd H T (.tup [.int (i : Nat), x]) ∧ ∀ xs, SqT K H a xs → xs[i]? = some x, fun i H => ∃ xs : List V, SqT K H a xs ∧ xs.length = i⟩
theorem turn_enumT {P : Program} {w : World} {K : PySem.W.Frag} {elts : List Expr} {kk : Nat} {tpos : Pos} (a e it : Addr) (hai : a ≠ it) :
    Turn P w K (.Tuple elts kk tpos) (IteT K a) [e, it] e (fun i h => (∃ old, IsEnum h e it ((i : Nat) : Int) old) ∧ h.IsTupleIter it a i ∧ e ≠ it ∧ a ≠ e) where
  mem := by simp
  obj := fun i h st b hb => by
    obtain ⟨⟨old, he⟩, ⟨o, ho, hc, hd⟩, _⟩ := st
    rcases (show b = e ∨ b = it by simpa using hb) with z | z
    · rw [z]; exact ⟨_, he, fun v q => nomatch q⟩
    · rw [z]; exact ⟨o, ho, fun v q => by rw [hd] at q; cases q⟩
  keep := fun i h h' st k => let ⟨⟨old, he⟩, hi, hne⟩ := st; ⟨⟨old, k e (by simp) _ he⟩, hi.at fun o q => k it (by simp) o q, hne⟩
  item := by
    intro X hP hw hK hc i pins s σ H E I hf st hg
    subst hP hw hK
    obtain ⟨⟨old, he⟩, hit, hne, hae⟩ := st
    obtain ⟨xs, x, hq, hx⟩ := hg
    obtain ⟨its, rv, p, hz⟩ := I.tuple hq
    obtain ⟨u, hu, ru⟩ := rv.get hx
    have hel : e < s.heap.objs.size := Heap.lt_size he
    have hil : it < s.heap.objs.size := by obtain ⟨_, q, _⟩ := hit; exact Heap.lt_size q
    have hlt : i < its.toArray.size := by
      have := (List.getElem?_eq_some_iff.mp hu).1
      simpa using this
    refine wpAny_pyNext_enum_itemD (Draws.tuple (show X.A.in1.handled = none from I.ok.hd hc) it a hai its.toArray) he ⟨hit, p⟩ hlt hne (by simp [hne, Ne.symm hae]) fun y h' tk py ho hst' hT hsz hk => ?_
    have ey : y = u := by
      have z : its.toArray[i]? = some y := py
      rw [List.getElem?_toArray, hu] at z
      exact (Option.some.inj z).symm
    subst ey
    refine ⟨_, rfl, wpAny_letOwnedTupleGo_enum (s := { s with heap := h', toks := tk + 1 }) ho fun h'' he' sb => ?_⟩
    have hT2 : h''.get? s.heap.objs.size = some { cls := .type "tuple", data := .seq #[.int i tk, y] } := (sb.2 _ (Nat.ne_of_gt hel)).trans hT
    have new : ObjOk X.prog X.w (upd H s.heap.objs.size (.tup [.int (i : Nat), x])) h'' s.heap.objs.size (.tup [.int (i : Nat), x]) :=
      ⟨by show 2 ≤ sizeLine; decide, [.int i tk, y], .cons ⟨_, rfl⟩ (.cons ru .nil), ⟨_, hT2, rfl, _, rfl⟩⟩
    have I1 : Inv X pins σ (upd H s.heap.objs.size (.tup [.int (i : Nat), x])) { s with heap := h'', toks := tk + 1 } :=
      I.turnedNew (ch := [e, it]) (fun b ob hb q => (sb.2 b (fun z => hb (by simp [z]))).trans (hk b ob (fun z => hb (by simp [z])) (fun z => hb (by simp [z])) q)) hf (Nat.le_refl _) new
    refine ⟨.ref s.heap.objs.size, _, I1, rfl, ⟨_, x, rfl, I.hok.fresh (Nat.le_refl _), rfl, fun ys hy => by rw [I.tuple_inj hy hq]; exact hx⟩, ⟨⟨y, ?_⟩, hst'.1.at fun o q => (sb.2 it (Ne.symm hne)).trans q, hne, hae⟩, fun b hb => ?_⟩
    · have e1 : ((i + 1 : Nat) : Int) = (i : Int) + 1 := by omega
      rw [e1]
      exact he'
    · have hb' : b < s.heap.objs.size := by
        rcases (show b = e ∨ b = it by simpa using hb) with z | z
        · rw [z]; exact hel
        · rw [z]; exact hil
      rw [upd_ne (Nat.ne_of_lt hb')]
      exact (hf b hb).1
  done := by
    intro X hP hw hK hc i pins s σ H E I hf st hg
    subst hP hw hK
    obtain ⟨⟨old, he⟩, hit, hne, hae⟩ := st
    obtain ⟨xs, hq, hx⟩ := hg
    obtain ⟨its, rv, p, hz⟩ := I.tuple hq
    obtain ⟨f0, f1, f2, f3, f4, f5⟩ := hf it (by simp)
    have hl := rv.length
    have hge : i = its.toArray.size := by simp; omega
    subst hge
    exact wpAny_pyNext_enum_endD (Draws.tuple (show X.A.in1.handled = none from I.ok.hd hc) it a hai its.toArray) he ⟨hit, p⟩ fun h' eb => ⟨rfl, I.turned (t' := s.toks) (fun b o hb q => eb b o hb q) f0 f1 f3 f4 f5⟩
  self := fun A i s Q E st h => let ⟨⟨_, he⟩, _⟩ := st; wpAny_pyIter_enum he h
def iEnumT (K : PySem.W.Frag) (ta : TA) : TI := fun σ H R => ta σ H fun vs H1 => ∃ a xs, vs = [.ref a] ∧ SqT K H1 a xs ∧ R (IteT K a) H1
theorem pi_enumT {X : Cx} {e : Expr} {ta : TA} {p pos tpos : Pos} {elts : List Expr} {kk : Nat} (hg : Gl X "enumerate") (hm : X.mg "enumerate" = none) (ha : PA X [e] ta) (hs : starEach [e] X.env = [(false, eval e X.env)] := by rfl) :
    PI X (.Tuple elts kk tpos) (.Call (.Name "enumerate" p) [e] [] pos) (iEnumT X.K ta) := by
  refine ⟨fun pins s σ H R I h => Call_ (ld_blt I hg hm boot_enumerate (PyProof.Rows.callWith_type1 (thn (ha.run pos pins s σ H _ I h) fun us s1 ⟨vs, H1, I1, r1, q1⟩ => ?_) hs rfl))⟩
  obtain ⟨a, xs, ex, hq, q⟩ := q1
  subst ex
  cases r1 with
  | cons r rr =>
    cases rr
    cases r
    obtain ⟨its, rv, p', hz⟩ := I1.tuple hq
    have hlt : a < s1.heap.objs.size := p'.lt
    refine call_enumT (show s1.heap.IsTuple a its.toArray from p') fun h' he hit hk => wpAny_pyIter_enum he ?_
    have I2 : L2.Inv X pins σ H1 { s1 with heap := h' } := I1.kept (t' := s1.toks) hk
    refine ⟨s1.heap.objs.size + 1, [s1.heap.objs.size + 1, s1.heap.objs.size], _, _, H1, rfl, I2, turn_enumT a (s1.heap.objs.size + 1) s1.heap.objs.size (Nat.ne_of_lt hlt), ⟨⟨.none, he⟩, hit, Nat.succ_ne_self _, Nat.ne_of_lt (Nat.lt_succ_of_lt hlt)⟩, fun b hb => ?_, q⟩
    have hle : s1.heap.objs.size ≤ b := by
      rcases (show b = s1.heap.objs.size + 1 ∨ b = s1.heap.objs.size by simpa using hb) with z | z
      · rw [z]; exact Nat.le_add_right _ _
      · rw [z]; exact Nat.le_refl _
    exact I1.fpOk hle (I1.hok.fresh hle)
section
variable {K : PySem.W.Frag} {M : Ads} {D : Option Addr} {σ : L2.St} {H : Hp} {ta : TE} {α : Type} {R : Rel α}
/-- the pairs (place, item) -/
def numd (l : List α) : List (Nat × α) := (List.range l.length).zip l
theorem numd_get {l : List α} {i : Nat} {a : α} (h : l[i]? = some a) : (numd l)[i]? = some (i, a) := by
  unfold numd
  rw [List.getElem?_zip_eq_some]
  exact ⟨List.getElem?_range (List.getElem?_eq_some_iff.mp h).1, h⟩
theorem wx_enumT {a : Addr} {ys : List V} {l : List α} [Mo R] {H0 : Hp} (h : H0 a = some (.tup ys)) (p : Paired (R H0) ys l) : WalkX M D (IteT K a) H0 (numd l) (RP RN R) where
  goes := fun i H' hi e => by
    have hi : i < l.length := by unfold numd at hi; simpa using hi
    obtain ⟨x, y, h1, h2, h3⟩ := paired_get p hi
    exact ⟨ys, x, SqT.of (e.tups _ _ h), h1⟩
  stops := fun H' e => ⟨ys, SqT.of (e.tups _ _ h), by rw [Paired.length p]; unfold numd; simp⟩
  yields := fun i H' x H'' hi e y => by
    have hi : i < l.length := by unfold numd at hi; simpa using hi
    obtain ⟨T, x1, rfl, hT, rfl, f1⟩ := y
    obtain ⟨x, y, h1, h2, h3⟩ := paired_get p hi
    have e1 := f1 ys (SqT.of (e.tups _ _ h))
    rw [h1] at e1
    cases e1
    have ex := (Ex.refl e.good.m0).new (o := .tup [.int (i : Nat), x1]) hT
    exact ⟨ex, (i, y), numd_get h2, T, .int (i : Nat), x1, rfl, upd_same, rfl, ex.mo (e.mo h3)⟩
theorem ei_enumT {l : List α} [Mo R] (ha : EvR M D ta σ H (RT R) l) : EvI M D (iEnumT K (tCons ta tNil)) σ H (numd l) (RP RN R) := fun H1 e Q q =>
  ha H1 e _ fun v H2 e2 ⟨a, ys, e4, h1, p1⟩ => ⟨a, ys, by rw [e4], SqT.of h1, q _ H2 e2 (wx_enumT h1 p1)⟩
/-- (*t, e) -/
theorem er_starT {tb : TE} {l : List α} {b : α} [Mo R] (ha : EvR M D ta σ H (RT R) l) (hb : EvR M D tb σ H R b) (hl : l.length < 50000) : EvR M D (tTup (StX.tStar K ta (tCons tb tNil))) σ H (RT R) (l ++ [b]) := fun H1 e Q q =>
  ha H1 e _ fun v H2 e2 r => by
    obtain ⟨a, ys, e4, h1, p1⟩ := r
    refine ⟨a, ys, e4, .inl (SqT.of h1), hb H2 (e.then e2) _ fun w H3 e3 rb => ⟨sz_of ?_, fun c hc => ?_⟩⟩
    · have := Paired.length p1
      rw [List.length_append]
      simp
      omega
    · have ex := (Ex.refl e3.good).new (o := .tup (ys ++ [w])) hc
      exact q _ _ ((e2.trans e3).trans ex) ⟨c, ys ++ [w], rfl, upd_same, paired_app (paired_mono (fun _ _ z => (e3.trans ex).mo z) p1) (.cons (ex.mo rb) .nil)⟩
end
/-! ### a list's item, for l[i] += e -/
theorem get_list {X : Cx} : PGet X (rIxL X.K) := by
  intro pins s σ H o i ov iv Q I ro ri h
  obtain ⟨p, xs, k, v, rfl, rfl, hq, he, q⟩ := h
  cases ro
  obtain ⟨t, rfl⟩ := ri
  obtain ⟨its, r, pl, hz⟩ := I.list hq
  obtain ⟨j, h1, h2, h3, h4, h5⟩ := atI_get he
  obtain ⟨w, ew, rw'⟩ := r.get h2
  have hl := r.length
  have hn := line63
  have fin : EP X pins σ Q w s := ⟨v, H, I, rw', q⟩
  by_cases h0 : 0 ≤ k
  · have hj : k.toNat = j := by
      rw [seqIndex_of h0 h5] at h1
      exact Option.some.inj h1
    exact wpAny_getItem_list (Q := fun r s' => EP X pins σ Q r s') pl.isList h0 (by omega) (by rw [hj]; simpa using ew) fin
  · have hj : (k + (its.toArray.size : Int)).toNat = j := by
      rw [seqIndex_neg (by omega) h4] at h1
      rw [List.size_toArray, ← hl]
      exact Option.some.inj h1
    exact wpAny_getItem_list_neg (Q := fun r s' => EP X pins σ Q r s') pl.isList (by omega) (by rw [List.size_toArray] <;> omega) (by omega) (by rw [hj]; simpa using ew) fin
/-! ### 10 ** 60 ** 10 -/
theorem op_powW {X : Cx} : OpR X (binaryOp .Pow) (rI (fun i j => i = 10 ^ 60 ∧ j = 10) fun _ _ => .int (10 ^ 600)) := opI fun i j t u Q s E hc q => by
  obtain ⟨rfl, rfl⟩ := hc
  refine pow_int (by decide) (by decide +kernel) ?_
  have e : ((10 : Int) ^ 60) ^ (10 : Int).toNat = 10 ^ 600 := by decide +kernel
  rw [e]
  exact q
end KX
namespace KX
open PySem PySem.Spec PyProof.Rows L2
/-! ### (x,) * 1 -/
theorem tuple_mul1 (l : Addr) (items : Array Value) (n : Nat) (dd : Option Addr) (sl : Array (Option Value)) (u : Tok) :
    Meets (Builtin.«tuple.__mul__» ⟨[.ref l, .int 1 u], []⟩) (fun _ R s => s.heap.get? l = some { cls := .type "tuple", dict := dd, data := .seq items n, slots := sl } ∧ R (.ok (.ret (Value.ref l))) s) :=
  .of_wp fun prog w A R s h => by
    obtain ⟨hp, g, d, tk, os⟩ := s
    obtain ⟨hl, h⟩ := h
    have f1 := AutoSeq1.idx_int
    have c1 : (items.isEmpty || (1 : Int) == 1) = true := by simp
    wp_walk using AutoSeq1.wpAny_loadPart' hl
    exact ⟨_, rfl, h⟩
def rRep1 (K : PySem.W.Frag) : R2 := fun x y H Q => ∃ l xs, x = .ref l ∧ y = .int 1 ∧ SqT K H l xs ∧ Q (.ref l) H
theorem op_rep1 {X : Cx} : OpR X (binaryOp .Mult) (rRep1 X.K) := by
  intro pins s σ H x y v u Q I rx ry h
  obtain ⟨l, xs, rfl, rfl, hT, q⟩ := h
  cases rx
  obtain ⟨t, rfl⟩ := ry
  obtain ⟨its, r, ⟨⟨cls, dd, data, sl⟩, ho, hc, n, hd⟩, hs⟩ := I.tuple hT
  simp only at hc hd
  subst hc hd
  exact wpAny_binaryOp_repeat_ref (T := "tuple") (U := "int") (by decide) ⟨_, ho, rfl⟩ (fun s' => typeIs_int s' 1 t) noFill_tuple_mul F.fills_int_mul F.slot_int_rmul repeat_tuple F.slot_int_index.lookup
    (call_meets F.slot_int_rmul (typeIs_int s 1 t) F.entry_int_rmul (F.args_int_rmul_2 _ _) (int_rmul_tuple 1 t l its.toArray n dd sl)
      ⟨ho, rfl, ⟨_, ho, rfl⟩, call_meets F.slot_tuple_mul ⟨_, ho, rfl⟩ F.entry_tuple_mul (F.args_tuple_mul_2 _ _) (tuple_mul1 l its.toArray n dd sl t) ⟨ho, ⟨.ref l, H, I, rfl, q⟩⟩⟩)
def rRepA (K : PySem.W.Frag) : R2 := fun x y H Q => rRep1 K x y H Q ∨ rRepT K x y H Q
theorem op_repA {X : Cx} : OpR X (binaryOp .Mult) (rRepA X.K) := OpR.or op_rep1 op_repT
section
variable {K : PySem.W.Frag} {M : Ads} {D : Option Addr} {σ : L2.St} {H : Hp} {ta tb : TE} {α : Type} {R : Rel α}
/-- (x,) * n -/
theorem er_rep {a : α} {n : Nat} {i : Int} [Mo R] (ha : EvR M D ta σ H (RT R) [a]) (hb : EvR M D tb σ H RI i) (hi : i = (n : Int)) (h1 : 1 ≤ n) (h2 : n ≤ 1000) : EvR M D (tOp (rRepA K) ta tb) σ H (RT R) (List.replicate n a) :=
  ev_op ha hb fun x y H1 e ⟨c, xs, e1, hc, p⟩ q Q k => by
    have ey : y = .int i := q
    subst ey e1
    obtain ⟨x0, rfl, r⟩ : ∃ x0, xs = [x0] ∧ R H1 x0 a := by
      cases p with
      | cons r t =>
        cases t
        exact ⟨_, rfl, r⟩
    by_cases h : n = 1
    · subst h
      exact .inl ⟨c, [x0], rfl, by rw [hi]; rfl, SqT.of hc, k _ H1 (Ex.refl e.good.m0) ⟨c, [x0], rfl, hc, .cons r .nil⟩⟩
    · refine .inr ⟨c, i, [x0], rfl, rfl, SqT.of hc, by simp, by omega, by omega, by simp, fun d hd => ?_⟩
      rw [show i.toNat = n by omega, List.flatten_replicate_singleton]
      have ex := (Ex.refl e.good.m0).new (o := .tup (List.replicate n x0)) hd
      exact k _ _ ex ⟨d, _, rfl, upd_same, paired_rep (ex.mo r) n⟩
end
end KX
namespace KX
open PySem PySem.Spec PyProof.Rows L2
/-! ### the rules with the written part named (within a comprehension's block the context's own name of it hangs on the block) -/
section
variable {X : Cx} (K : PySem.W.Frag) (h : X.K = K)
include h
theorem k_ixT : IxR X (rIxT K) := by subst h; exact ix_tup
theorem k_ixL : IxR X (rIxL K) := by subst h; exact ix_list
theorem k_len : CallR X (.builtin "len") (rLenS K) := by subst h; exact call_len_seq
theorem k_isi : CallR X (.builtin "isinstance") (rIsi K) := by subst h; exact call_isi
theorem k_all (hc : X.calm = true) : CallR X (.builtin "all") (rAll K) := by subst h; exact cr_all hc
theorem k_any (hc : X.calm = true) : CallR X (.builtin "any") (rAny K) := by subst h; exact cr_any hc
theorem k_tupOf : CallR X (.type "tuple") (rTupOf K) := by subst h; exact call_tuple_of
theorem k_lstOf : CallR X (.type "list") (rLstOf K) := by subst h; exact call_list_of
theorem k_in : OpR X (compareOp .In) (rIn K false) := by subst h; exact op_in_seq
theorem k_rep : OpR X (binaryOp .Mult) (rRepA K) := by subst h; exact op_repA
theorem k_cat : OpR X (binaryOp .Add) (rCatA K) := by subst h; exact op_catA
theorem k_slT : SlR X (rSlA K) := by subst h; exact sl_tupA
theorem k_eqD (hu : X.A.units + 64 < cLine) : OpR X (compareOp .Eq) (rEqD K) := by subst h; exact op_eqD hu
theorem k_neD (hu : X.A.units + 64 < cLine) : OpR X (compareOp .NotEq) (rNeD K) := by subst h; exact op_neD hu
theorem k_get : PGet X (rIxL K) := by subst h; exact get_list
theorem k_piL {tg l : Expr} {tl : TE} (hl : PE X l tl) : PI X tg l (iList K tl) := by subst h; exact pi_list hl
theorem k_piT {tg l : Expr} {tl : TE} (hl : PE X l tl) : PI X tg l (iTup K tl) := by subst h; exact pi_tup hl
theorem k_zip {e e2 : Expr} {ta : TA} {p pos tpos : Pos} {elts : List Expr} {kk : Nat} (hg : Gl X "zip") (hm : X.mg "zip" = none) (ha : PA X [e, e2] ta)
    (hs : starEach [e, e2] X.env = (false, eval e X.env) :: starEach [e2] X.env := by rfl) (hpl : (backTo pos (starEach [e2] X.env)).any (·.1) = false := by rfl) :
    PI X (.Tuple elts kk tpos) (.Call (.Name "zip" p) [e, e2] [] pos) (RZ.iZipA K ta) := by subst h; exact RZ.pi_zipA hg hm ha hs hpl
theorem k_enum {e : Expr} {ta : TA} {p pos tpos : Pos} {elts : List Expr} {kk : Nat} (hg : Gl X "enumerate") (hm : X.mg "enumerate" = none) (ha : PA X [e] ta) (hs : starEach [e] X.env = [(false, eval e X.env)] := by rfl) :
    PI X (.Tuple elts kk tpos) (.Call (.Name "enumerate" p) [e] [] pos) (iEnumT K ta) := by subst h; exact pi_enumT hg hm ha hs
theorem k_star {e : Expr} {es : List Expr} {te : TE} {t : TA} {p : Pos} (he : PE X e te) (hr : PA X es t) (hs : starEach (.Starred e p :: es) X.env = (true, eval e X.env) :: starEach es X.env := by rfl) : PA X (.Starred e p :: es) (StX.tStar K te t) := by subst h; exact StX.pa_star he hr hs
theorem k_pgT {es : List Expr} {k : Nat} {t : TGs} {n : Nat} {pos : Pos} (hc : X.calm = true) (hp : PGs X es t) (hn : (assignEach es X.env).length = n := by rfl) (hst : (assignEach es X.env).findIdx? (·.1) = none := by rfl) : PG X (.Tuple es k pos) (gTup K n t) := by subst h; exact pg_tup hc hp hn hst
end
end KX
namespace KX
open PySem PySem.Spec PyProof.Rows L2
/-! ### the text by places -/
def topS (i : Nat) : Stmt := PySem.Challenge.pw_ringstairs_k80_whole_least_degrees_and_c.main.body.getD i (.Pass ⟨0, 0, 0, 0⟩)
abbrev s__law_dice : Stmt := topS 46
abbrev N__law_dice : List Str := ["_law_script", "_law_at", "_law_cell", "_law_great", "_law_left", "_law_mixed_here"]
theorem sc__law_dice : FnScope N__law_dice ["_law_script", "_law_at"] (defScope s__law_dice) := ⟨rfl, rfl, rfl, by decide +kernel, rfl, by decide +kernel, by decide +kernel⟩
abbrev s__law_longer : Stmt := topS 60
abbrev N__law_longer : List Str := ["_law_rows", "_law_n", "_law_found", "_law_row", "_law_place"]
theorem sc__law_longer : FnScope N__law_longer ["_law_rows", "_law_n"] (defScope s__law_longer) := ⟨rfl, rfl, rfl, by decide +kernel, rfl, by decide +kernel, by decide +kernel⟩
abbrev s__law_all_tuples : Stmt := topS 59
abbrev N__law_all_tuples : List Str := ["_law_chain_here", "_law_found", "_law_n", "_law_s"]
theorem sc__law_all_tuples : FnScope N__law_all_tuples ["_law_chain_here"] (defScope s__law_all_tuples) := ⟨rfl, rfl, rfl, by decide +kernel, rfl, by decide +kernel, by decide +kernel⟩
abbrev s__law_grown : Stmt := topS 56
abbrev N__law_grown : List Str := ["_law_heap_here", "_law_ring_here", "_law_x", "_law_n", "_law_s", "_law_found", "_law_column", "_law_height", "_law_can_rise"]
theorem sc__law_grown : FnScope N__law_grown ["_law_heap_here", "_law_ring_here", "_law_x"] (defScope s__law_grown) := ⟨rfl, rfl, rfl, by decide +kernel, rfl, by decide +kernel, by decide +kernel⟩
abbrev s__law_heap : Stmt := topS 57
abbrev N__law_heap : List Str := ["_law_chain_here", "_law_x", "_law_heap_here", "_law_ring_here", "_law_place"]
theorem sc__law_heap : FnScope N__law_heap ["_law_chain_here", "_law_x"] (defScope s__law_heap) := ⟨rfl, rfl, rfl, by decide +kernel, rfl, by decide +kernel, by decide +kernel⟩
abbrev s__law_rich : Stmt := topS 58
abbrev N__law_rich : List Str := ["_law_heap_here", "_law_rings", "_law_total", "_law_k", "_law_rows"]
theorem sc__law_rich : FnScope N__law_rich ["_law_heap_here", "_law_rings", "_law_total"] (defScope s__law_rich) := ⟨rfl, rfl, rfl, by decide +kernel, rfl, by decide +kernel, by decide +kernel⟩
abbrev s__law_best : Stmt := topS 61
abbrev N__law_best : List Str := ["_law_chain_here", "_law_k", "_law_tuples", "_law_heaps", "_law_size", "_law_total", "_law_heap_here", "_law_x"]
theorem sc__law_best : FnScope N__law_best ["_law_chain_here", "_law_k", "_law_tuples"] (defScope s__law_best) := ⟨rfl, rfl, rfl, by decide +kernel, rfl, by decide +kernel, by decide +kernel⟩
abbrev s__law_roll : Stmt := topS 47
abbrev N__law_roll : List Str := ["_law_dice_here", "_law_total", "_law_size", "_law_drawn", "_law_one", "_law_two"]
theorem sc__law_roll : FnScope N__law_roll ["_law_dice_here", "_law_total"] (defScope s__law_roll) := ⟨rfl, rfl, rfl, by decide +kernel, rfl, by decide +kernel, by decide +kernel⟩
abbrev s__law_ring : Stmt := topS 52
abbrev N__law_ring : List Str := ["_law_dice_here", "_law_most", "_law_n"]
theorem sc__law_ring : FnScope N__law_ring ["_law_dice_here", "_law_most"] (defScope s__law_ring) := ⟨rfl, rfl, rfl, by decide +kernel, rfl, by decide +kernel, by decide +kernel⟩
abbrev s__law_common : Stmt := topS 50
abbrev N__law_common : List Str := ["_law_one", "_law_other"]
theorem sc__law_common : FnScope N__law_common ["_law_one", "_law_other"] (defScope s__law_common) := ⟨rfl, rfl, rfl, by decide +kernel, rfl, by decide +kernel, by decide +kernel⟩
abbrev s__law_one_of : Stmt := topS 48
abbrev N__law_one_of : List Str := ["_law_dice_here", "_law_items"]
theorem sc__law_one_of : FnScope N__law_one_of ["_law_dice_here", "_law_items"] (defScope s__law_one_of) := ⟨rfl, rfl, rfl, by decide +kernel, rfl, by decide +kernel, by decide +kernel⟩
abbrev s__law_ring_of : Stmt := topS 53
abbrev N__law_ring_of : List Str := ["_law_dice_here", "_law_k", "_law_times", "_law_more", "_law_steps", "_law_one"]
theorem sc__law_ring_of : FnScope N__law_ring_of ["_law_dice_here", "_law_k", "_law_times"] (defScope s__law_ring_of) := ⟨rfl, rfl, rfl, by decide +kernel, rfl, by decide +kernel, by decide +kernel⟩
abbrev s__law_chain : Stmt := topS 54
abbrev N__law_chain : List Str := ["_law_dice_here", "_law_rings", "_law_most", "_law_k", "_law_turn"]
theorem sc__law_chain : FnScope N__law_chain ["_law_dice_here", "_law_rings", "_law_most"] (defScope s__law_chain) := ⟨rfl, rfl, rfl, by decide +kernel, rfl, by decide +kernel, by decide +kernel⟩
abbrev s__law_is_class : Stmt := topS 63
abbrev N__law_is_class : List Str := ["_law_chain_here", "_law_value", "_law_x", "_law_place", "_law_ring_here"]
theorem sc__law_is_class : FnScope N__law_is_class ["_law_chain_here", "_law_value"] (defScope s__law_is_class) := ⟨rfl, rfl, rfl, by decide +kernel, rfl, by decide +kernel, by decide +kernel⟩
abbrev s__law_is_least : Stmt := topS 64
abbrev N__law_is_least : List Str := ["_law_chain_here", "_law_k", "_law_due", "_law_value"]
theorem sc__law_is_least : FnScope N__law_is_least ["_law_chain_here", "_law_k", "_law_due", "_law_value"] (defScope s__law_is_least) := ⟨rfl, rfl, rfl, by decide +kernel, rfl, by decide +kernel, by decide +kernel⟩
abbrev s__law_spoilt : Stmt := topS 62
abbrev N__law_spoilt : List Str := ["_law_dice_here", "_law_chain_here", "_law_told", "_law_total", "_law_x", "_law_at", "_law_other", "_law_some"]
theorem sc__law_spoilt : FnScope N__law_spoilt ["_law_dice_here", "_law_chain_here", "_law_told"] (defScope s__law_spoilt) := ⟨rfl, rfl, rfl, by decide +kernel, rfl, by decide +kernel, by decide +kernel⟩
abbrev s_is_whole : Stmt := topS 9
abbrev N_is_whole : List Str := ["value"]
theorem sc_is_whole : FnScope N_is_whole ["value"] (defScope s_is_whole) := ⟨rfl, rfl, rfl, by decide +kernel, rfl, by decide +kernel, by decide +kernel⟩
abbrev s_is_integer : Stmt := topS 10
abbrev N_is_integer : List Str := ["value"]
theorem sc_is_integer : FnScope N_is_integer ["value"] (defScope s_is_integer) := ⟨rfl, rfl, rfl, by decide +kernel, rfl, by decide +kernel, by decide +kernel⟩
abbrev s_is_within : Stmt := topS 11
abbrev N_is_within : List Str := ["value", "least", "most"]
theorem sc_is_within : FnScope N_is_within ["value", "least", "most"] (defScope s_is_within) := ⟨rfl, rfl, rfl, by decide +kernel, rfl, by decide +kernel, by decide +kernel⟩
abbrev s_is_tuple_in : Stmt := topS 17
abbrev N_is_tuple_in : List Str := ["chain", "value", "ring", "place"]
theorem sc_is_tuple_in : FnScope N_is_tuple_in ["chain", "value"] (defScope s_is_tuple_in) := ⟨rfl, rfl, rfl, by decide +kernel, rfl, by decide +kernel, by decide +kernel⟩
abbrev s_is_class_in : Stmt := topS 18
abbrev N_is_class_in : List Str := ["chain", "value"]
theorem sc_is_class_in : FnScope N_is_class_in ["chain", "value"] (defScope s_is_class_in) := ⟨rfl, rfl, rfl, by decide +kernel, rfl, by decide +kernel, by decide +kernel⟩
abbrev s_box_in : Stmt := topS 20
abbrev N_box_in : List Str := ["columns", "rows"]
theorem sc_box_in : FnScope N_box_in ["columns", "rows"] (defScope s_box_in) := ⟨rfl, rfl, rfl, by decide +kernel, rfl, by decide +kernel, by decide +kernel⟩
abbrev s_addable_columns : Stmt := topS 22
abbrev N_addable_columns : List Str := ["heap", "heights", "column"]
theorem sc_addable_columns : FnScope N_addable_columns ["heap"] (defScope s_addable_columns) := ⟨rfl, rfl, rfl, by decide +kernel, rfl, by decide +kernel, by decide +kernel⟩
abbrev s_risen : Stmt := topS 23
abbrev N_risen : List Str := ["heap", "columns", "heights", "column", "height"]
theorem sc_risen : FnScope N_risen ["heap", "columns"] (defScope s_risen) := ⟨rfl, rfl, rfl, by decide +kernel, rfl, by decide +kernel, by decide +kernel⟩
abbrev s_grown_in : Stmt := topS 24
abbrev N_grown_in : List Str := ["heap", "ring", "place", "size", "step", "heights", "diagonals", "column", "diagonal"]
theorem sc_grown_in : FnScope N_grown_in ["heap", "ring", "place"] (defScope s_grown_in) := ⟨rfl, rfl, rfl, by decide +kernel, rfl, by decide +kernel, by decide +kernel⟩
abbrev s_heaps_in : Stmt := topS 25
abbrev N_heaps_in : List Str := ["chain", "places", "found", "ring", "place"]
theorem sc_heaps_in : FnScope N_heaps_in ["chain", "places"] (defScope s_heaps_in) := ⟨rfl, rfl, rfl, by decide +kernel, rfl, by decide +kernel, by decide +kernel⟩
abbrev s_heap_in : Stmt := topS 26
abbrev N_heap_in : List Str := ["chain", "places"]
theorem sc_heap_in : FnScope N_heap_in ["chain", "places"] (defScope s_heap_in) := ⟨rfl, rfl, rfl, by decide +kernel, rfl, by decide +kernel, by decide +kernel⟩
abbrev s_holds_in : Stmt := topS 21
abbrev N_holds_in : List Str := ["heap", "other", "one", "two"]
theorem sc_holds_in : FnScope N_holds_in ["heap", "other"] (defScope s_holds_in) := ⟨rfl, rfl, rfl, by decide +kernel, rfl, by decide +kernel, by decide +kernel⟩
abbrev s_is_rich_in : Stmt := topS 40
abbrev N_is_rich_in : List Str := ["chain", "degree", "places", "k"]
theorem sc_is_rich_in : FnScope N_is_rich_in ["chain", "degree", "places", "k"] (defScope s_is_rich_in) := ⟨rfl, rfl, rfl, by decide +kernel, rfl, by decide +kernel, by decide +kernel⟩
abbrev s_greatest_of : Stmt := topS 32
abbrev N_greatest_of : List Str := ["heaps", "found", "heap", "one", "other"]
theorem sc_greatest_of : FnScope N_greatest_of ["heaps"] (defScope s_greatest_of) := ⟨rfl, rfl, rfl, by decide +kernel, rfl, by decide +kernel, by decide +kernel⟩
abbrev s_free_columns : Stmt := topS 28
abbrev N_free_columns : List Str := ["heap", "part", "heights", "columns", "column"]
theorem sc_free_columns : FnScope N_free_columns ["heap", "part"] (defScope s_free_columns) := ⟨rfl, rfl, rfl, by decide +kernel, rfl, by decide +kernel, by decide +kernel⟩
abbrev s_let_columns : Stmt := topS 30
abbrev N_let_columns : List Str := ["heap", "part", "order", "lots", "column", "diagonal", "rest"]
theorem sc_let_columns : FnScope N_let_columns ["heap", "part", "order"] (defScope s_let_columns) := ⟨rfl, rfl, rfl, by decide +kernel, rfl, by decide +kernel, by decide +kernel⟩
abbrev s_order_in : Stmt := topS 14
abbrev N_order_in : List Str := ["ring"]
theorem sc_order_in : FnScope N_order_in ["ring"] (defScope s_order_in) := ⟨rfl, rfl, rfl, by decide +kernel, rfl, by decide +kernel, by decide +kernel⟩
abbrev s_with_columns : Stmt := topS 29
abbrev N_with_columns : List Str := ["heap", "part", "columns", "heights", "column", "height"]
theorem sc_with_columns : FnScope N_with_columns ["heap", "part", "columns"] (defScope s_with_columns) := ⟨rfl, rfl, rfl, by decide +kernel, rfl, by decide +kernel, by decide +kernel⟩
abbrev s_grown_rows : Stmt := topS 33
abbrev N_grown_rows : List Str := ["chain", "heap", "rows", "letter", "ring", "later", "order", "part", "columns"]
theorem sc_grown_rows : FnScope N_grown_rows ["chain", "heap"] (defScope s_grown_rows) := ⟨rfl, rfl, rfl, by decide +kernel, rfl, by decide +kernel, by decide +kernel⟩
abbrev s_letters_put : Stmt := topS 31
abbrev N_letters_put : List Str := ["heap", "steps", "found", "letter", "columns", "column", "height"]
theorem sc_letters_put : FnScope N_letters_put ["heap", "steps"] (defScope s_letters_put) := ⟨rfl, rfl, rfl, by decide +kernel, rfl, by decide +kernel, by decide +kernel⟩
abbrev s_some_filling_in : Stmt := topS 34
abbrev N_some_filling_in : List Str := ["chain", "heap", "steps"]
theorem sc_some_filling_in : FnScope N_some_filling_in ["chain", "heap"] (defScope s_some_filling_in) := ⟨rfl, rfl, rfl, by decide +kernel, rfl, by decide +kernel, by decide +kernel⟩
abbrev s_filled_box : Stmt := topS 37
abbrev N_filled_box : List Str := ["chain", "k", "rows", "found"]
theorem sc_filled_box : FnScope N_filled_box ["chain", "k"] (defScope s_filled_box) := ⟨rfl, rfl, rfl, by decide +kernel, rfl, by decide +kernel, by decide +kernel⟩
abbrev s_least_degree_in : Stmt := topS 38
abbrev N_least_degree_in : List Str := ["chain", "k", "found"]
theorem sc_least_degree_in : FnScope N_least_degree_in ["chain", "k"] (defScope s_least_degree_in) := ⟨rfl, rfl, rfl, by decide +kernel, rfl, by decide +kernel, by decide +kernel⟩
abbrev s_is_ring_in : Stmt := topS 12
abbrev N_is_ring_in : List Str := ["value"]
theorem sc_is_ring_in : FnScope N_is_ring_in ["value"] (defScope s_is_ring_in) := ⟨rfl, rfl, rfl, by decide +kernel, rfl, by decide +kernel, by decide +kernel⟩
abbrev s_is_chain_in : Stmt := topS 13
abbrev N_is_chain_in : List Str := ["value", "ring"]
theorem sc_is_chain_in : FnScope N_is_chain_in ["value"] (defScope s_is_chain_in) := ⟨rfl, rfl, rfl, by decide +kernel, rfl, by decide +kernel, by decide +kernel⟩
abbrev s_require_chain : Stmt := topS 15
abbrev N_require_chain : List Str := ["value"]
theorem sc_require_chain : FnScope N_require_chain ["value"] (defScope s_require_chain) := ⟨rfl, rfl, rfl, by decide +kernel, rfl, by decide +kernel, by decide +kernel⟩
abbrev s_require_richness : Stmt := topS 41
abbrev N_require_richness : List Str := ["chain", "k"]
theorem sc_require_richness : FnScope N_require_richness ["chain", "k"] (defScope s_require_richness) := ⟨rfl, rfl, rfl, by decide +kernel, rfl, by decide +kernel, by decide +kernel⟩
abbrev s_is_least_class : Stmt := topS 44
abbrev N_is_least_class : List Str := ["chain", "k", "value"]
theorem sc_is_least_class : FnScope N_is_least_class ["chain", "k", "value"] (defScope s_is_least_class) := ⟨rfl, rfl, rfl, by decide +kernel, rfl, by decide +kernel, by decide +kernel⟩
abbrev s_tuple_of_filling : Stmt := topS 39
abbrev N_tuple_of_filling : List Str := ["chain", "filling", "found", "column", "letters", "row", "index"]
theorem sc_tuple_of_filling : FnScope N_tuple_of_filling ["chain", "filling"] (defScope s_tuple_of_filling) := ⟨rfl, rfl, rfl, by decide +kernel, rfl, by decide +kernel, by decide +kernel⟩
abbrev s_least_class : Stmt := topS 43
abbrev N_least_class : List Str := ["chain", "k"]
theorem sc_least_class : FnScope N_least_class ["chain", "k"] (defScope s_least_class) := ⟨rfl, rfl, rfl, by decide +kernel, rfl, by decide +kernel, by decide +kernel⟩
abbrev s_least_degree : Stmt := topS 42
abbrev N_least_degree : List Str := ["chain", "k"]
theorem sc_least_degree : FnScope N_least_degree ["chain", "k"] (defScope s_least_degree) := ⟨rfl, rfl, rfl, by decide +kernel, rfl, by decide +kernel, by decide +kernel⟩
abbrev s__law_k_right : Stmt := topS 65
abbrev N__law_k_right : List Str := ["_law_dice_here", "_law_chain_here", "_law_k", "_law_due", "_law_told", "_law_turn", "_law_value"]
theorem sc__law_k_right : FnScope N__law_k_right ["_law_dice_here", "_law_chain_here", "_law_k", "_law_due"] (defScope s__law_k_right) := ⟨rfl, rfl, rfl, by decide +kernel, rfl, by decide +kernel, by decide +kernel⟩
abbrev s__law_right : Stmt := topS 66
abbrev N__law_right : List Str := ["_law_dice_here", "_law_size", "_law_chain_here", "_law_tuples", "_law_due", "_law_k"]
theorem sc__law_right : FnScope N__law_right ["_law_dice_here"] (defScope s__law_right) := ⟨rfl, rfl, rfl, by decide +kernel, rfl, by decide +kernel, by decide +kernel⟩
abbrev s_law : Stmt := topS 67
abbrev N_law : List Str := ["_law_script", "_law_at"]
theorem sc_law : FnScope N_law ["_law_script"] (defScope s_law) := ⟨rfl, rfl, rfl, by decide +kernel, rfl, by decide +kernel, by decide +kernel⟩
/-! ### a def as it stands -/
structure DefAt (K : PySem.W.Frag) (mg : Str → Option Value) (x : Str) (st : Stmt) (ps : List Str) (f : Addr) (fd : FuncData) : Prop where
  fn : FunD K x x (defArgs st) (defBody st) (defScope st) [] [] f fd
  at_ : mg x = some (.ref f)
  bi : Binds K fd ps []
structure Prog (K : PySem.W.Frag) (mg : Str → Option Value) (A : Nat → Addr) (F : Nat → FuncData) : Prop where
  d__law_dice : DefAt K mg "_law_dice" s__law_dice ["_law_script", "_law_at"] (A 0) (F 0)
  d__law_longer : DefAt K mg "_law_longer" s__law_longer ["_law_rows", "_law_n"] (A 1) (F 1)
  d__law_all_tuples : DefAt K mg "_law_all_tuples" s__law_all_tuples ["_law_chain_here"] (A 2) (F 2)
  d__law_grown : DefAt K mg "_law_grown" s__law_grown ["_law_heap_here", "_law_ring_here", "_law_x"] (A 3) (F 3)
  d__law_heap : DefAt K mg "_law_heap" s__law_heap ["_law_chain_here", "_law_x"] (A 4) (F 4)
  d__law_rich : DefAt K mg "_law_rich" s__law_rich ["_law_heap_here", "_law_rings", "_law_total"] (A 5) (F 5)
  d__law_best : DefAt K mg "_law_best" s__law_best ["_law_chain_here", "_law_k", "_law_tuples"] (A 6) (F 6)
  d__law_roll : DefAt K mg "_law_roll" s__law_roll ["_law_dice_here", "_law_total"] (A 7) (F 7)
  d__law_ring : DefAt K mg "_law_ring" s__law_ring ["_law_dice_here", "_law_most"] (A 8) (F 8)
  d__law_common : DefAt K mg "_law_common" s__law_common ["_law_one", "_law_other"] (A 9) (F 9)
  d__law_one_of : DefAt K mg "_law_one_of" s__law_one_of ["_law_dice_here", "_law_items"] (A 10) (F 10)
  d__law_ring_of : DefAt K mg "_law_ring_of" s__law_ring_of ["_law_dice_here", "_law_k", "_law_times"] (A 11) (F 11)
  d__law_chain : DefAt K mg "_law_chain" s__law_chain ["_law_dice_here", "_law_rings", "_law_most"] (A 12) (F 12)
  d__law_is_class : DefAt K mg "_law_is_class" s__law_is_class ["_law_chain_here", "_law_value"] (A 13) (F 13)
  d__law_is_least : DefAt K mg "_law_is_least" s__law_is_least ["_law_chain_here", "_law_k", "_law_due", "_law_value"] (A 14) (F 14)
  d__law_spoilt : DefAt K mg "_law_spoilt" s__law_spoilt ["_law_dice_here", "_law_chain_here", "_law_told"] (A 15) (F 15)
  d_is_whole : DefAt K mg "is_whole" s_is_whole ["value"] (A 16) (F 16)
  d_is_integer : DefAt K mg "is_integer" s_is_integer ["value"] (A 17) (F 17)
  d_is_within : DefAt K mg "is_within" s_is_within ["value", "least", "most"] (A 18) (F 18)
  d_is_tuple_in : DefAt K mg "is_tuple_in" s_is_tuple_in ["chain", "value"] (A 19) (F 19)
  d_is_class_in : DefAt K mg "is_class_in" s_is_class_in ["chain", "value"] (A 20) (F 20)
  d_box_in : DefAt K mg "box_in" s_box_in ["columns", "rows"] (A 21) (F 21)
  d_addable_columns : DefAt K mg "addable_columns" s_addable_columns ["heap"] (A 22) (F 22)
  d_risen : DefAt K mg "risen" s_risen ["heap", "columns"] (A 23) (F 23)
  d_grown_in : DefAt K mg "grown_in" s_grown_in ["heap", "ring", "place"] (A 24) (F 24)
  d_heaps_in : DefAt K mg "heaps_in" s_heaps_in ["chain", "places"] (A 25) (F 25)
  d_heap_in : DefAt K mg "heap_in" s_heap_in ["chain", "places"] (A 26) (F 26)
  d_holds_in : DefAt K mg "holds_in" s_holds_in ["heap", "other"] (A 27) (F 27)
  d_is_rich_in : DefAt K mg "is_rich_in" s_is_rich_in ["chain", "degree", "places", "k"] (A 28) (F 28)
  d_greatest_of : DefAt K mg "greatest_of" s_greatest_of ["heaps"] (A 29) (F 29)
  d_free_columns : DefAt K mg "free_columns" s_free_columns ["heap", "part"] (A 30) (F 30)
  d_let_columns : DefAt K mg "let_columns" s_let_columns ["heap", "part", "order"] (A 31) (F 31)
  d_order_in : DefAt K mg "order_in" s_order_in ["ring"] (A 32) (F 32)
  d_with_columns : DefAt K mg "with_columns" s_with_columns ["heap", "part", "columns"] (A 33) (F 33)
  d_grown_rows : DefAt K mg "grown_rows" s_grown_rows ["chain", "heap"] (A 34) (F 34)
  d_letters_put : DefAt K mg "letters_put" s_letters_put ["heap", "steps"] (A 35) (F 35)
  d_some_filling_in : DefAt K mg "some_filling_in" s_some_filling_in ["chain", "heap"] (A 36) (F 36)
  d_filled_box : DefAt K mg "filled_box" s_filled_box ["chain", "k"] (A 37) (F 37)
  d_least_degree_in : DefAt K mg "least_degree_in" s_least_degree_in ["chain", "k"] (A 38) (F 38)
  d_is_ring_in : DefAt K mg "is_ring_in" s_is_ring_in ["value"] (A 39) (F 39)
  d_is_chain_in : DefAt K mg "is_chain_in" s_is_chain_in ["value"] (A 40) (F 40)
  d_require_chain : DefAt K mg "require_chain" s_require_chain ["value"] (A 41) (F 41)
  d_require_richness : DefAt K mg "require_richness" s_require_richness ["chain", "k"] (A 42) (F 42)
  d_is_least_class : DefAt K mg "is_least_class" s_is_least_class ["chain", "k", "value"] (A 43) (F 43)
  d_tuple_of_filling : DefAt K mg "tuple_of_filling" s_tuple_of_filling ["chain", "filling"] (A 44) (F 44)
  d_least_class : DefAt K mg "least_class" s_least_class ["chain", "k"] (A 45) (F 45)
  d_least_degree : DefAt K mg "least_degree" s_least_degree ["chain", "k"] (A 46) (F 46)
  d__law_k_right : DefAt K mg "_law_k_right" s__law_k_right ["_law_dice_here", "_law_chain_here", "_law_k", "_law_due"] (A 47) (F 47)
  d__law_right : DefAt K mg "_law_right" s__law_right ["_law_dice_here"] (A 48) (F 48)
  d_law : DefAt K mg "law" s_law ["_law_script"] (A 49) (F 49)
  len : mg "len" = none
  abs : mg "abs" = none
  isinstance : mg "isinstance" = none
  all : mg "all" = none
  any : mg "any" = none
  min : mg "min" = none
  max : mg "max" = none
  int : mg "int" = none
  str : mg "str" = none
  tuple : mg "tuple" = none
  list : mg "list" = none
  sorted : mg "sorted" = none
  set : mg "set" = none
  dict : mg "dict" = none
  bool : mg "bool" = none
  sum : mg "sum" = none
  range : mg "range" = none
  zip : mg "zip" = none
  enumerate : mg "enumerate" = none
  gcd : mg "gcd" = some (.builtin "math.gcd")
  c_MOST_RINGS : ∃ t, mg "MOST_RINGS" = some (.int 12 t)
  c_MOST_PLACES : ∃ t, mg "MOST_PLACES" = some (.int 60 t)
  c_SIXTY_DIGITS : ∃ t, mg "SIXTY_DIGITS" = some (.int (10 ^ 60) t)
  c_MOST_RICH : ∃ t, mg "MOST_RICH" = some (.int 40 t)
theorem DefAt.ok {P : Program} {w : World} {K : PySem.W.Frag} {mg : Str → Option Value} {base : Heap} {x : Str} {st : Stmt} {f : Addr} {fd : FuncData} {N ps : List Str} {k : Nat} {sp : Sp} (F : DefAt K mg x st ps f fd) (S : FnScope N ps (defScope st)) (len : ∀ vs H Q E, sp vs H Q E → vs.length = ps.length)
    (hbody : ∀ (cdv : Value) (A : Around) (outer : List Env) (s : Shared) (H : Hp) (vs : List V) (Q : VK) (E : XK), Room k (A.deeper (envOfC x (defScope st) s.heap.objs.size f cdv)) → sp vs H Q E →
      ∃ t, PSs (cxOf CX0 P w K mg base N x (defScope st) f cdv A outer s H E).nox (defBody st) t ∧ t { nx := fun _ H' => Q .non H', rt := Q } (start N vs) H) : FnOk P w K mg base CX0 (k + 1) f fd ps sp := by
  refine F.fn.ok S len fun cdv A outer s H vs Q E hr hsp => ?_
  obtain ⟨t, h, q⟩ := hbody cdv A outer s H vs Q E hr hsp
  exact ⟨t, h.nox, q⟩
end KX
namespace KX
open PySem PySem.Spec PyProof.Rows L2
/-! ### promises: of a value, of a new list -/
def sp1 {α : Type} (R : Rel α) (pre : α → Prop) (post : α → V → Hp → Prop) : Sp := fun vs H Q _ => ∃ v a, vs = [v] ∧ R H v a ∧ pre a ∧ ∀ u H', Same H H' → post a u H' → Q u H'
def sp2 {α β : Type} (R : Rel α) (S : Rel β) (pre : α → β → Prop) (post : α → β → V → Hp → Prop) : Sp := fun vs H Q _ => ∃ v w a b, vs = [v, w] ∧ R H v a ∧ S H w b ∧ pre a b ∧ ∀ u H', Same H H' → post a b u H' → Q u H'
def sp3 {α β γ : Type} (R : Rel α) (S : Rel β) (T : Rel γ) (pre : α → β → γ → Prop) (post : α → β → γ → V → Hp → Prop) : Sp := fun vs H Q _ => ∃ v w z a b c, vs = [v, w, z] ∧ R H v a ∧ S H w b ∧ T H z c ∧ pre a b c ∧ ∀ u H', Same H H' → post a b c u H' → Q u H'
def sn1 {α : Type} (R : Rel α) (pre : α → Prop) (post : α → Addr → Hp → Prop) : Sp := fun vs H Q _ => ∃ v a, vs = [v] ∧ R H v a ∧ pre a ∧ ∀ p H', H p = none → Same H H' → post a p H' → Q (.ref p) H'
def sn2 {α β : Type} (R : Rel α) (S : Rel β) (pre : α → β → Prop) (post : α → β → Addr → Hp → Prop) : Sp := fun vs H Q _ => ∃ v w a b, vs = [v, w] ∧ R H v a ∧ S H w b ∧ pre a b ∧ ∀ p H', H p = none → Same H H' → post a b p H' → Q (.ref p) H'
def sn3 {α β γ : Type} (R : Rel α) (S : Rel β) (T : Rel γ) (pre : α → β → γ → Prop) (post : α → β → γ → Addr → Hp → Prop) : Sp := fun vs H Q _ => ∃ v w z a b c, vs = [v, w, z] ∧ R H v a ∧ S H w b ∧ T H z c ∧ pre a b c ∧ ∀ p H', H p = none → Same H H' → post a b c p H' → Q (.ref p) H'
section
variable {M : Ads} {D : Option Addr} {σ : L2.St} {H : Hp} {ta tb tc : TE} {α β γ : Type} {R : Rel α} {S : Rel β} {T : Rel γ}
theorem ev_c1 {pre : α → Prop} {post : α → V → Hp → Prop} {a : α} (h1 : EvR M D ta σ H R a) (hp : pre a) : Ev M D (tCall (sp1 R pre post) [] E0 (tCons ta tNil)) σ H (post a) :=
  ev_call (ea_one h1) fun vs H1 e ⟨v, ev, r⟩ Q q => ⟨v, a, by rw [ev]; rfl, r, hp, fun u H' s p => q u H' (Ex.same e.good.m0 s) p⟩
theorem ev_c2 {pre : α → β → Prop} {post : α → β → V → Hp → Prop} {a : α} {b : β} [Mo R] (h1 : EvR M D ta σ H R a) (h2 : EvR M D tb σ H S b) (hp : pre a b) : Ev M D (tCall (sp2 R S pre post) [] E0 (tCons ta (tCons tb tNil))) σ H (post a b) :=
  ev_call (ea_cons h1 (ea_one h2)) fun vs H1 e ⟨v, r, ev, p1, w, ew, p2⟩ Q q => ⟨v, w, a, b, by rw [ev, ew]; rfl, p1, p2, hp, fun u H' s p => q u H' (Ex.same e.good.m0 s) p⟩
theorem ev_c3 {pre : α → β → γ → Prop} {post : α → β → γ → V → Hp → Prop} {a : α} {b : β} {c : γ} [Mo R] [Mo S] (h1 : EvR M D ta σ H R a) (h2 : EvR M D tb σ H S b) (h3 : EvR M D tc σ H T c) (hp : pre a b c) : Ev M D (tCall (sp3 R S T pre post) [] E0 (tCons ta (tCons tb (tCons tc tNil)))) σ H (post a b c) :=
  ev_call (ea_cons h1 (ea_cons h2 (ea_one h3))) fun vs H1 e ⟨v, r, ev, p1, w, r2, ew, p2, z, ez, p3⟩ Q q => ⟨v, w, z, a, b, c, by rw [ev, ew, ez]; rfl, p1, p2, p3, hp, fun u H' s p => q u H' (Ex.same e.good.m0 s) p⟩
theorem en_c1 {pre : α → Prop} {post : α → Addr → Hp → Prop} {a : α} (h1 : EvR M D ta σ H R a) (hp : pre a) : EvN M D (tCall (sn1 R pre post) [] E0 (tCons ta tNil)) σ H (post a) :=
  en_call (ea_one h1) fun vs H1 e ⟨v, ev, r⟩ Q q => ⟨v, a, by rw [ev]; rfl, r, hp, fun u H' hn s p => q u H' hn (Ex.same e.good.m0 s) p⟩
theorem en_c2 {pre : α → β → Prop} {post : α → β → Addr → Hp → Prop} {a : α} {b : β} [Mo R] (h1 : EvR M D ta σ H R a) (h2 : EvR M D tb σ H S b) (hp : pre a b) : EvN M D (tCall (sn2 R S pre post) [] E0 (tCons ta (tCons tb tNil))) σ H (post a b) :=
  en_call (ea_cons h1 (ea_one h2)) fun vs H1 e ⟨v, r, ev, p1, w, ew, p2⟩ Q q => ⟨v, w, a, b, by rw [ev, ew]; rfl, p1, p2, hp, fun u H' hn s p => q u H' hn (Ex.same e.good.m0 s) p⟩
theorem en_c3 {pre : α → β → γ → Prop} {post : α → β → γ → Addr → Hp → Prop} {a : α} {b : β} {c : γ} [Mo R] [Mo S] (h1 : EvR M D ta σ H R a) (h2 : EvR M D tb σ H S b) (h3 : EvR M D tc σ H T c) (hp : pre a b c) : EvN M D (tCall (sn3 R S T pre post) [] E0 (tCons ta (tCons tb (tCons tc tNil)))) σ H (post a b c) :=
  en_call (ea_cons h1 (ea_cons h2 (ea_one h3))) fun vs H1 e ⟨v, r, ev, p1, w, r2, ew, p2, z, ez, p3⟩ Q q => ⟨v, w, z, a, b, c, by rw [ev, ew, ez]; rfl, p1, p2, p3, hp, fun u H' hn s p => q u H' hn (Ex.same e.good.m0 s) p⟩
end
abbrev RRg : Rel KM.Rg := RP RI RI
abbrev RCh : Rel (List KM.Rg) := RT RRg
abbrev RHp : Rel (List Int) := RT RI
abbrev RSt : Rel KM.Steps := RT (RP RN (RT RN))
abbrev RFil : Rel (List (List Nat)) := RT (RT RN)
/-! ### any value that the law hands over -/
inductive A0 where
  | int (i : Int) | bl (b : Bool) | non | str | lst | dct | tupi (l : List Int)
inductive A1 where
  | a0 (x : A0) | tup (l : List A0)
def RA0 : Rel A0 := fun H v a => match a with
  | .int i => v = .int i
  | .bl b => v = .bl b
  | .non => v = .non
  | .str => ∃ x, v = .str x
  | .lst => ∃ p xs, v = .ref p ∧ H p = some (.lst xs)
  | .dct => ∃ p kvs, v = .ref p ∧ H p = some (.dK kvs)
  | .tupi l => RT RI H v l
def RA1 : Rel A1 := fun H v a => match a with
  | .a0 x => RA0 H v x
  | .tup l => RT RA0 H v l
instance : Mo RA0 := ⟨fun {H H' v a} k h => by
  cases a with
  | lst =>
    obtain ⟨p, xs, e, q⟩ := h
    obtain ⟨o, h1, h2⟩ := k.kinds p _ q
    cases o with
    | lst ys => exact ⟨p, ys, e, h1⟩
    | _ => simp [kd] at h2
  | dct =>
    obtain ⟨p, xs, e, q⟩ := h
    obtain ⟨o, h1, h2⟩ := k.kinds p _ q
    cases o with
    | dK ys => exact ⟨p, ys, e, h1⟩
    | _ => simp [kd] at h2
  | tupi l => exact Mo.mono (R := RT RI) k h
  | _ => exact h⟩
instance : Mo RA1 := ⟨fun {H H' v a} k h => by
  cases a with
  | a0 x => exact Mo.mono (R := RA0) k h
  | tup l => exact Mo.mono (R := RT RA0) k h⟩
def A0.tyn : A0 → String
  | .int _ => "int"
  | .bl _ => "bool"
  | .non => "NoneType"
  | .str => "str"
  | .lst => "list"
  | .dct => "dict"
  | .tupi _ => "tuple"
def A1.tyn : A1 → String
  | .a0 x => x.tyn
  | .tup _ => "tuple"
theorem RA0.ty {K : PySem.W.Frag} {H : Hp} {v : V} {a : A0} (h : RA0 H v a) : TyX K H v (.type a.tyn) := by
  cases a with
  | int i => rw [show v = .int i from h]; exact .base (.int i)
  | bl b => rw [show v = .bl b from h]; exact .base (.bl b)
  | non => rw [show v = .non from h]; exact .base .non
  | str => obtain ⟨x, e⟩ := h; rw [e]; exact .base (.str x)
  | lst => obtain ⟨p, xs, e, q⟩ := h; rw [e]; exact .base (.lst q)
  | dct => obtain ⟨p, xs, e, q⟩ := h; rw [e]; exact .base (.dK q)
  | tupi l => obtain ⟨p, xs, e, q, _⟩ := h; rw [e]; exact .base (.tup q)
theorem RA1.ty {K : PySem.W.Frag} {H : Hp} {v : V} {a : A1} (h : RA1 H v a) : TyX K H v (.type a.tyn) := by
  cases a with
  | a0 x => exact RA0.ty h
  | tup l => obtain ⟨p, xs, e, q, _⟩ := h; rw [e]; exact .base (.tup q)
def A0.isI : A0 → Bool
  | .int _ => true
  | _ => false
def A0.isB : A0 → Bool
  | .bl _ => true
  | _ => false
def A0.isT : A0 → Bool
  | .tupi _ => true
  | _ => false
def A1.isT : A1 → Bool
  | .a0 x => x.isT
  | .tup _ => true
theorem kit_int {K : PySem.W.Frag} (a : A0) : PySem.W.kitOne K (.type a.tyn) (.type "int") = some (a.isI || a.isB) := by
  cases a with
  | int i => exact kit_ty (show kitB "int" "int" = some true by decide +kernel)
  | bl b => exact kit_ty (show kitB "bool" "int" = some true by decide +kernel)
  | non => exact kit_ty (show kitB "NoneType" "int" = some false by decide +kernel)
  | str => exact kit_ty (show kitB "str" "int" = some false by decide +kernel)
  | lst => exact kit_ty (show kitB "list" "int" = some false by decide +kernel)
  | dct => exact kit_ty (show kitB "dict" "int" = some false by decide +kernel)
  | tupi l => exact kit_ty (show kitB "tuple" "int" = some false by decide +kernel)
theorem kit_bool {K : PySem.W.Frag} (a : A0) : PySem.W.kitOne K (.type a.tyn) (.type "bool") = some a.isB := by
  cases a with
  | int i => exact kit_ty (show kitB "int" "bool" = some false by decide +kernel)
  | bl b => exact kit_ty (show kitB "bool" "bool" = some true by decide +kernel)
  | non => exact kit_ty (show kitB "NoneType" "bool" = some false by decide +kernel)
  | str => exact kit_ty (show kitB "str" "bool" = some false by decide +kernel)
  | lst => exact kit_ty (show kitB "list" "bool" = some false by decide +kernel)
  | dct => exact kit_ty (show kitB "dict" "bool" = some false by decide +kernel)
  | tupi l => exact kit_ty (show kitB "tuple" "bool" = some false by decide +kernel)
theorem kit_tup {K : PySem.W.Frag} (a : A0) : PySem.W.kitOne K (.type a.tyn) (.type "tuple") = some a.isT := by
  cases a with
  | int i => exact kit_ty (show kitB "int" "tuple" = some false by decide +kernel)
  | bl b => exact kit_ty (show kitB "bool" "tuple" = some false by decide +kernel)
  | non => exact kit_ty (show kitB "NoneType" "tuple" = some false by decide +kernel)
  | str => exact kit_ty (show kitB "str" "tuple" = some false by decide +kernel)
  | lst => exact kit_ty (show kitB "list" "tuple" = some false by decide +kernel)
  | dct => exact kit_ty (show kitB "dict" "tuple" = some false by decide +kernel)
  | tupi l => exact kit_ty (show kitB "tuple" "tuple" = some true by decide +kernel)
theorem kit_tup1 {K : PySem.W.Frag} (a : A1) : PySem.W.kitOne K (.type a.tyn) (.type "tuple") = some a.isT := by
  cases a with
  | a0 x => exact kit_tup x
  | tup l => exact kit_ty (show kitB "tuple" "tuple" = some true by decide +kernel)
section
variable {K : PySem.W.Frag} {M : Ads} {D : Option Addr} {σ : L2.St} {H : Hp} {ta tb tc : TE} {α β : Type} {R : Rel α}
/-- isinstance(x, T) -/
theorem er_isi {T : String} {b : Bool} {P : V → Hp → Prop} (ha : Ev M D ta σ H P) (hk : ∀ v H1, P v H1 → ∃ t, TyX K H1 v (.type t) ∧ PySem.W.kitOne K (.type t) (.type T) = some b) : EvR M D (tCB (rIsi K) (tCons ta (tCons (tC (.ty T)) tNil))) σ H RB b := fun H1 e Q q =>
  ha H1 e _ fun v H2 e2 p => by
    obtain ⟨t, h1, h2⟩ := hk v H2 p
    exact ⟨v, .ty T, .type t, .type T, b, rfl, .ty T, h1, h2, q _ H2 e2 rfl⟩
theorem er_isI {a : A0} (ha : EvR M D ta σ H RA0 a) : EvR M D (tCB (rIsi K) (tCons ta (tCons (tC (.ty "int")) tNil))) σ H RB (a.isI || a.isB) := er_isi ha fun v H1 p => ⟨_, RA0.ty p, kit_int a⟩
theorem er_isB {a : A0} (ha : EvR M D ta σ H RA0 a) : EvR M D (tCB (rIsi K) (tCons ta (tCons (tC (.ty "bool")) tNil))) σ H RB a.isB := er_isi ha fun v H1 p => ⟨_, RA0.ty p, kit_bool a⟩
theorem er_isT {a : A0} (ha : EvR M D ta σ H RA0 a) : EvR M D (tCB (rIsi K) (tCons ta (tCons (tC (.ty "tuple")) tNil))) σ H RB a.isT := er_isi ha fun v H1 p => ⟨_, RA0.ty p, kit_tup a⟩
theorem er_isT1 {a : A1} (ha : EvR M D ta σ H RA1 a) : EvR M D (tCB (rIsi K) (tCons ta (tCons (tC (.ty "tuple")) tNil))) σ H RB a.isT := er_isi ha fun v H1 p => ⟨_, RA1.ty p, kit_tup1 a⟩
theorem er_isTT {l : List α} (ha : EvR M D ta σ H (RT R) l) : EvR M D (tCB (rIsi K) (tCons ta (tCons (tC (.ty "tuple")) tNil))) σ H RB true := er_isi ha fun v H1 ⟨p, xs, e, q, _⟩ => ⟨"tuple", by rw [e]; exact .base (.tup q), kit_ty (by decide +kernel)⟩
/-- a <= b <= c; 0 <= b < c -/
theorem er_chain {f g : Int → Int → Bool} {i j k : Int} (ha : EvR M D ta σ H RI i) (hb : EvR M D tb σ H RI j) (hc : EvR M D tc σ H RI k) : EvR M D (tChain (rI0 fun i j => .bl (f i j)) (rI0 fun i j => .bl (g i j)) ta tb tc) σ H RB (f i j && g j k) := fun H1 e Q q =>
  ha H1 e _ fun x H2 e2 px => hb H2 (e.then e2) _ fun y H3 e3 py => ⟨i, j, px, py, f i j, rfl, by
    cases h : f i j with
    | true =>
      show tc σ H3 _
      exact hc H3 ((e.then e2).then e3) _ fun z H4 e4 pz => ⟨j, k, py, pz, q _ H4 ((e2.trans e3).trans e4) (by rw [h]; rfl)⟩
    | false => exact q _ H3 (e2.trans e3) (by rw [h]; rfl)⟩
theorem er_abs {i : Int} (ha : EvR M D ta σ H RI i) : EvR M D (tCB (fun xs H Q => ∃ i, xs = [.int i] ∧ Q (.int (if i < 0 then -i else i)) H) (tCons ta tNil)) σ H RI (if i < 0 then -i else i) := fun H1 e Q q =>
  ha H1 e _ fun x H2 e2 px => ⟨i, by rw [show x = .int i from px], q _ H2 e2 rfl⟩
end
variable {P : Program} {w : World} {K : PySem.W.Frag} {mg : Str → Option Value} {base : PySem.Heap} {A : Nat → Addr} {F : Nat → FuncData}
theorem e00 {H : Hp} : Ex M0 none H H := Ex.refl good0
/-! ### holds_in -/
def sp_holds_in : Sp := sp2 RHp RHp (fun h o => h.length < 1000 ∧ o.length < 1000) fun h o v _ => v = .bl (KM.holdsB h o)
theorem ok_holds_in (T : Prog K mg A F) : FnOk P w K mg base CX0 1 (A 27) (F 27) ["heap", "other"] sp_holds_in := by
  have sc := sc_holds_in
  refine T.d_holds_in.ok sc_holds_in (fun vs H Q E h => ?_) (fun cdv _ outer s H vs Q E hr h => ?_)
  · obtain ⟨_, _, _, _, rfl, _⟩ := h
    rfl
  · obtain ⟨v, z, a, b, rfl, ra, rb, ⟨la, lb⟩, q⟩ := h
    refine ⟨_, (pss_one (ps_ret (pe_and (pe_cmpR op_le (pe_callB (k_len K rfl) (by rfl) T.len (by decide +kernel) (pa_cons (pv 1) pa_nil)) (pe_callB (k_len K rfl) (by rfl) T.len (by decide +kernel) (pa_cons (pv 0) pa_nil)) (nomark _)) (pe_one (pe_callB (k_all K rfl rfl) (by rfl) T.all (by decide +kernel) (pa_cons (pe_lc (own := [("one", 2), ("two", 3)]) (g := gTup K 2 (gCons (gName 2) (gCons (gName 3) gNil))) (tt := tYes) rfl sc.nd (k_zip K rfl (by rfl) T.zip (pa_cons (pv 0) (pa_cons (pv 1) pa_nil))) (blkOk_by (N := N_holds_in) (sc := defScope s_holds_in) (by decide +kernel)) (fun _ _ _ _ _ => (k_pgT K rfl rfl (pgs_cons (pg_name (i := 2) sc.nd rfl (.inl rfl)) (pgs_cons (pg_name (i := 3) sc.nd rfl (.inl rfl)) pgs_nil)))) (fun _ _ _ _ _ => pts_nil) (fun _ _ _ _ _ => (pe_cmpR op_ge (pv 2) (pv 3) (nomark _)))) pa_nil)))))), ?_⟩
    refine s_ret e00 (er_andV (er_le (er_nat (er_lenT (er_var rfl rb)) rfl) (er_nat (er_lenT (er_var rfl ra)) rfl)) fun _ => er_all (el_map (R := RP RI RI) (fun p : Int × Int => decide (p.2 ≤ p.1)) (ei_zipT (er_var rfl ra) (er_var rfl rb)) (by rw [List.length_zip]; omega)
      fun i x p H' hx e r => tg_pair r (fun _ _ => rfl) fun x y r1 r2 => er_ge (er_var rfl r1) (er_var rfl r2))) fun v H2 e p => q v H2 e.toSame ?_
    rw [show v = _ from p]
    unfold KM.holdsB
    simp
/-! ### is_whole, is_integer, is_within -/
def sp_is_whole : Sp := sp1 RA0 (fun _ => True) fun a v _ => v = .bl a.isI
theorem ok_is_whole (T : Prog K mg A F) : FnOk P w K mg base CX0 1 (A 16) (F 16) ["value"] sp_is_whole := by
  have sc := sc_is_whole
  refine T.d_is_whole.ok sc_is_whole (fun vs H Q E h => ?_) (fun cdv _ outer s H vs Q E hr h => ?_)
  · obtain ⟨_, _, rfl, _⟩ := h
    rfl
  · obtain ⟨v, a, rfl, ra, _, q⟩ := h
    refine ⟨_, (pss_one (ps_ret (pe_and (pe_callB (k_isi K rfl) (by rfl) T.isinstance (by decide +kernel) (pa_cons (pv 0) (pa_cons (pe_bltn (v := .ty "int") (by rfl) T.int (by decide +kernel) rfl) pa_nil))) (pe_one (pe_not (pe_callB (k_isi K rfl) (by rfl) T.isinstance (by decide +kernel) (pa_cons (pv 0) (pa_cons (pe_bltn (v := .ty "bool") (by rfl) T.bool (by decide +kernel) rfl) pa_nil)))))))), ?_⟩
    refine s_ret e00 (er_andV (er_isI (er_var rfl ra)) fun _ => er_notV (er_isB (er_var rfl ra))) fun v H2 e p => q v H2 e.toSame ?_
    rw [show v = _ from p]
    cases a <;> rfl
def A0.isS : A0 → Bool
  | .int i => decide ((if i < 0 then -i else i) < 10 ^ 60)
  | _ => false
def sp_is_integer : Sp := sp1 RA0 (fun _ => True) fun a v _ => v = .bl a.isS
theorem ok_is_integer (T : Prog K mg A F) : FnOk P w K mg base CX0 2 (A 17) (F 17) ["value"] sp_is_integer := by
  have G_is_whole := ok_is_whole (P := P) (w := w) (base := base) T
  have sc := sc_is_integer
  refine T.d_is_integer.ok sc_is_integer (fun vs H Q E h => ?_) (fun cdv _ outer s H vs Q E hr h => ?_)
  · obtain ⟨_, _, rfl, _⟩ := h
    rfl
  · obtain ⟨v, a, rfl, ra, _, q⟩ := h
    refine ⟨_, (pss_one (ps_ret (pe_and (pe_call G_is_whole (hr.mono (by decide)) (by rfl) T.d_is_whole.at_ T.d_is_whole.fn.kp T.d_is_whole.bi .nil pass0 (pa_cons (pv 0) pa_nil)) (pe_one (pe_cmpR op_lt (pe_callB call_abs (by rfl) T.abs (by decide +kernel) (pa_cons (pv 0) pa_nil)) (pe_glob (v := .int (10 ^ 60)) rfl T.c_SIXTY_DIGITS.choose_spec ⟨_, rfl⟩) (nomark _)))))), ?_⟩
    refine s_ret e00 (er_andV (b := a.isS) (ev_c1 (er_var rfl ra) trivial) fun h => ?_) fun v H2 e p => q v H2 e.toSame ?_
    · cases a with
      | int i => exact er_lt (er_abs (er_var (R := RI) rfl ra)) er_int
      | _ => cases h
    · rw [show v = _ from p]
      cases a <;> simp [A0.isI, A0.isS]
def A0.isW (l m : Int) : A0 → Bool
  | .int i => decide (l ≤ i) && decide (i ≤ m)
  | _ => false
def sp_is_within : Sp := sp3 RA0 RI RI (fun _ _ _ => True) fun a l m v _ => v = .bl (a.isW l m)
theorem ok_is_within (T : Prog K mg A F) : FnOk P w K mg base CX0 2 (A 18) (F 18) ["value", "least", "most"] sp_is_within := by
  have G_is_whole := ok_is_whole (P := P) (w := w) (base := base) T
  have sc := sc_is_within
  refine T.d_is_within.ok sc_is_within (fun vs H Q E h => ?_) (fun cdv _ outer s H vs Q E hr h => ?_)
  · obtain ⟨_, _, _, _, _, _, rfl, _⟩ := h
    rfl
  · obtain ⟨v, y, z, a, l, m, rfl, ra, rl, rm, _, q⟩ := h
    refine ⟨_, (pss_one (ps_ret (pe_and (pe_call G_is_whole (hr.mono (by decide)) (by rfl) T.d_is_whole.at_ T.d_is_whole.fn.kp T.d_is_whole.bi .nil pass0 (pa_cons (pv 0) pa_nil)) (pe_one (pe_chain op_le op_le (pv 1) (pv 0) (pv 2)))))), ?_⟩
    refine s_ret e00 (er_andV (b := a.isW l m) (ev_c1 (er_var rfl ra) trivial) fun h => ?_) fun v H2 e p => q v H2 e.toSame ?_
    · cases a with
      | int i => exact er_chain (er_var rfl rl) (er_var (R := RI) rfl ra) (er_var rfl rm)
      | _ => cases h
    · rw [show v = _ from p]
      cases a <;> simp [A0.isI, A0.isW]
theorem ra_int {H : Hp} {v : V} {i : Int} (h : RI H v i) : RA0 H v (.int i) := h
/-! ### rings, chains -/
structure Rok (r : KM.Rg) : Prop where
  ok : KM.RgOk r
  le : r.1 ≤ 60
structure Cok (ch : List KM.Rg) : Prop where
  ok : ∀ r ∈ ch, Rok r
  one : 1 ≤ ch.length
  most : ch.length ≤ 12
theorem Cok.rg {ch : List KM.Rg} (c : Cok ch) : ∀ r ∈ ch, KM.RgOk r := fun r h => (c.ok r h).ok
end KX
namespace KX
open PySem PySem.Spec PyProof.Rows L2
/-- a list that stands, as an argument -/
def RLs {α : Type} (R : Rel α) : Rel (List α) := fun H v l => ∃ p, v = .ref p ∧ LAt H p R l
section
variable {K : PySem.W.Frag} {M : Ads} {D : Option Addr} {σ : L2.St} {H H0 : Hp} {ta tb tc te : TE} {α β : Type} {R : Rel α} {S : Rel β} {B : Ends} {tz : TS}
theorem er_lenP {p : α × β} (ha : EvR M D ta σ H (RP R S) p) : EvR M D (tCB (rLenS K) (tCons ta tNil)) σ H RN 2 := fun H1 e Q q =>
  ha H1 e _ fun x H2 e2 ⟨c, y, z, e1, h, _⟩ => ⟨c, [y, z], by rw [e1], .inr (SqT.of h), q _ H2 e2 rfl⟩
theorem er_isTP {p : α × β} (ha : EvR M D ta σ H (RP R S) p) : EvR M D (tCB (rIsi K) (tCons ta (tCons (tC (.ty "tuple")) tNil))) σ H RB true := er_isi ha fun v H1 ⟨c, _, _, e, q, _⟩ => ⟨"tuple", by rw [e]; exact .base (.tup q), kit_ty (show kitB "tuple" "tuple" = some true by decide +kernel)⟩
theorem q_pair {i j : Nat} {p : α × β} (e : Ex M D H0 H) (h : EvR M D te σ H0 (RP R S) p) (k : ∀ v w H2, Ex M0 D H H2 → R H2 v p.1 → S H2 w p.2 → tz B ((σ.set i (some v)).set j (some w)) H2) : tSeq (tAsg te (gTup K 2 (gCons (gName i) (gCons (gName j) gNil)))) tz B σ H :=
  h H e _ fun v H2 e2 r => g_pair r fun v w r1 r2 => k v w H2 e2 r1 r2
theorem er_ofL {l : List α} (h : EvL M D te σ H R l) : EvR M D te σ H (RLs R) l := fun H1 e Q q => h H1 e _ fun p H2 _ e2 r => q _ H2 e2 ⟨p, rfl, r⟩
theorem in_nats {c : Nat} {cols : List Nat} : inV (.int (c : Int)) (cols.map fun (n : Nat) => V.int (n : Int)) = decide (c ∈ cols) := by
  unfold inV
  rw [List.any_map]
  by_cases h : c ∈ cols
  · rw [decide_eq_true h]
    refine List.any_eq_true.mpr ⟨c, h, ?_⟩
    simp [eqV]
  · rw [decide_eq_false h]
    refine List.any_eq_false.mpr fun x hx => ?_
    simp only [Function.comp_apply, eqV]
    intro z
    have z2 : (x : Int) = c := by simpa using z
    exact h (by rw [← show x = c by omega]; exact hx)
/-- n in l -/
theorem er_inL {c : Nat} {cols : List Nat} {p : Addr} (ha : EvR M D ta σ H RN c) (hb : Ev M D tb σ H fun v _ => v = .ref p) (hl : LAt H p RN cols) (hm : ¬ M p) (hd : D ≠ some p) : EvR M D (tOp (rIn K false) ta tb) σ H RB (decide (c ∈ cols)) := fun H1 e Q q =>
  ha H1 e _ fun x H2 e2 px => hb H2 (e.then e2) _ fun y H3 e3 py => by
    obtain ⟨xs, h1, h2⟩ := ((e.then e2).then e3).lat hm hd hl
    have ex := paired_nats h2
    refine ⟨p, xs, py, .inl (SqL.of h1), by rw [show x = .int (c : Int) from px]; rfl, ?_, q _ H3 (e2.trans e3) ?_⟩
    · rw [ex, List.all_map]
      exact List.all_eq_true.mpr fun _ _ => rfl
    · show V.bl _ = V.bl _
      rw [show x = .int (c : Int) from px, ex, in_nats]
      rfl
theorem er_neg {i : Int} (ha : EvR M D ta σ H RI i) : EvR M D (tUn (rU fun i => .int (-i)) ta) σ H RI (-i) := fun H1 e Q q => ha H1 e _ fun x H2 e2 px => ⟨i, px, q _ H2 e2 rfl⟩
theorem er_intb {b : Bool} (ha : EvR M D ta σ H RB b) : EvR M D (tCB (fun xs H Q => (∃ i, xs = [.int i] ∧ Q (.int i) H) ∨ ∃ k, xs = [.bl k] ∧ Q (.int (if k then 1 else 0)) H) (tCons ta tNil)) σ H RI (if b = true then 1 else 0) := fun H1 e Q q =>
  ha H1 e _ fun x H2 e2 px => .inr ⟨b, by rw [show x = .bl b from px], q _ H2 e2 rfl⟩
theorem er_inti {i : Int} (ha : EvR M D ta σ H RI i) : EvR M D (tCB (fun xs H Q => (∃ i, xs = [.int i] ∧ Q (.int i) H) ∨ ∃ k, xs = [.bl k] ∧ Q (.int (if k then 1 else 0)) H) (tCons ta tNil)) σ H RI i := fun H1 e Q q =>
  ha H1 e _ fun x H2 e2 px => .inl ⟨i, by rw [show x = .int i from px], q _ H2 e2 rfl⟩
theorem er_gcd {i j : Int} (ha : EvR M D ta σ H RI i) (hb : EvR M D tb σ H RI j) : EvR M D (tCB rGcd (tCons ta (tCons tb tNil))) σ H RI (Int.gcd i j : Int) := fun H1 e Q q =>
  ha H1 e _ fun x H2 e2 px => hb H2 (e.then e2) _ fun y H3 e3 py => ⟨i, j, by rw [show x = .int i from px, show y = .int j from py], q _ H3 (e2.trans e3) rfl⟩
end
theorem hz_get (h : List Int) {c : Nat} (e : c ≤ h.length) : (h ++ [(0 : Int)])[c]? = some (KM.hgt h c) := by
  by_cases q : c < h.length
  · rw [List.getElem?_append_left q, List.getElem?_eq_getElem q, KM.hgt_lt h q]
  · have : c = h.length := by omega
    subst this
    rw [List.getElem?_append_right (Nat.le_refl _), Nat.sub_self, KM.hgt_ge h (Nat.le_refl _)]
    rfl
variable {P : Program} {w : World} {K : PySem.W.Frag} {mg : Str → Option Value} {base : PySem.Heap} {A : Nat → Addr} {F : Nat → FuncData}
def sp_is_ring_in : Sp := sp1 RRg Rok fun _ v _ => v = .bl true
theorem ok_is_ring_in (T : Prog K mg A F) : FnOk P w K mg base CX0 3 (A 39) (F 39) ["value"] sp_is_ring_in := by
  have G_is_within := ok_is_within (P := P) (w := w) (base := base) T
  have sc := sc_is_ring_in
  refine T.d_is_ring_in.ok sc_is_ring_in (fun vs H Q E h => ?_) (fun cdv _ outer s H vs Q E hr h => ?_)
  · obtain ⟨_, _, rfl, _⟩ := h
    rfl
  · obtain ⟨v, r, rfl, rr, hr', q⟩ := h
    have h1 := hr'.ok.two
    have h2 := hr'.ok.s1
    have h3 := hr'.ok.s2
    have h4 := hr'.le
    refine ⟨_, (pss_cons (ps_if (PW.pt (pw_or (pt_not (pt_val (pe_callB (k_isi K rfl) (by rfl) T.isinstance (by decide +kernel) (pa_cons (pv 0) (pa_cons (pe_bltn (v := .ty "tuple") (by rfl) T.tuple (by decide +kernel) rfl) pa_nil))))) (pw_or (pt_cmpR op_ne (pe_callB (k_len K rfl) (by rfl) T.len (by decide +kernel) (pa_cons (pv 0) pa_nil)) pe_int (nomark _)) (pw_or1 (pt_not (pt_val (pe_call G_is_within (hr.mono (by decide)) (by rfl) T.d_is_within.at_ T.d_is_within.fn.kp T.d_is_within.bi .nil pass0 (pa_cons (pe_ix (k_ixT K rfl) (pv 0) pe_int (fun _ _ => rfl)) (pa_cons pe_int (pa_cons (pe_glob (v := .int 60) rfl T.c_MOST_PLACES.choose_spec ⟨_, rfl⟩) pa_nil)))))))))) (pss_one (ps_ret pe_bl)) pss_nil)
      (pss_one (ps_ret (pe_call G_is_within (hr.mono (by decide)) (by rfl) T.d_is_within.at_ T.d_is_within.fn.kp T.d_is_within.bi .nil pass0 (pa_cons (pe_ix (k_ixT K rfl) (pv 0) pe_int (fun _ _ => rfl)) (pa_cons pe_int (pa_cons (pe_op op_sub (pe_ix (k_ixT K rfl) (pv 0) pe_int (fun _ _ => rfl)) pe_int) pa_nil))))))), ?_⟩
    refine q_when e00 (et_or (et_not (et_B (er_isTP (er_var rfl rr)))) fun _ => et_or (et_test (er_ne (er_nat (er_lenP (er_var rfl rr)) rfl) er_int)) fun _ => et_not (et_B (ev_c3 (a := A0.int r.1) (er_fst (er_var rfl rr) er_int) er_int er_int trivial))) (fun z => ?_) fun _ H1 e1 => ?_
    · exfalso
      have : A0.isW 2 60 (.int r.1) = true := by unfold A0.isW; simp; omega
      rw [this] at z
      simp at z
    · have rr := e1.mo rr
      refine s_ret e00 (ev_c3 (a := A0.int r.2) (er_snd (er_var rfl rr) er_int) er_int (er_sub (er_fst (er_var rfl rr) er_int) er_int) trivial) fun v H2 e p => q v H2 (e1.trans e).toSame ?_
      rw [show v = _ from p]
      have : A0.isW 1 (r.1 - 1) (.int r.2) = true := by unfold A0.isW; simp; omega
      rw [this]
def sp_order_in : Sp := sp1 RRg Rok fun r v _ => v = .int (KM.ord r)
theorem ok_order_in (T : Prog K mg A F) : FnOk P w K mg base CX0 1 (A 32) (F 32) ["ring"] sp_order_in := by
  have sc := sc_order_in
  refine T.d_order_in.ok sc_order_in (fun vs H Q E h => ?_) (fun cdv _ outer s H vs Q E hr h => ?_)
  · obtain ⟨_, _, rfl, _⟩ := h
    rfl
  · obtain ⟨v, r, rfl, rr, hr', q⟩ := h
    have h1 := hr'.ok.two
    have h4 := hr'.le
    refine ⟨_, (pss_one (ps_ret (pe_op op_fdiv (pe_ix (k_ixT K rfl) (pv 0) pe_int (fun _ _ => rfl)) (pe_callBfun cr_gcd (by rfl) T.gcd (pa_cons (pe_ix (k_ixT K rfl) (pv 0) pe_int (fun _ _ => rfl)) (pa_cons (pe_ix (k_ixT K rfl) (pv 0) pe_int (fun _ _ => rfl)) pa_nil)))))), ?_⟩
    refine s_ret e00 (er_fdiv (er_fst (er_var rfl rr) er_int) (er_gcd (er_fst (er_var rfl rr) er_int) (er_snd (er_var rfl rr) er_int)) ?_) fun v H2 e p => q v H2 e.toSame p
    have a := Int.gcd_pos_of_ne_zero_left r.2 (a := r.1) (by omega)
    have b := Int.gcd_le_left r.2 (a := r.1) (by omega)
    exact ⟨by omega, by omega⟩
def sp_is_chain_in : Sp := sp1 RCh Cok fun _ v _ => v = .bl true
theorem ok_is_chain_in (T : Prog K mg A F) : FnOk P w K mg base CX0 4 (A 40) (F 40) ["value"] sp_is_chain_in := by
  have G_is_ring_in := ok_is_ring_in (P := P) (w := w) (base := base) T
  have sc := sc_is_chain_in
  refine T.d_is_chain_in.ok sc_is_chain_in (fun vs H Q E h => ?_) (fun cdv _ outer s H vs Q E hr h => ?_)
  · obtain ⟨_, _, rfl, _⟩ := h
    rfl
  · obtain ⟨v, ch, rfl, rc, ok, q⟩ := h
    have h1 := ok.one
    have h2 := ok.most
    refine ⟨_, (pss_one (ps_ret (pe_and (pe_callB (k_isi K rfl) (by rfl) T.isinstance (by decide +kernel) (pa_cons (pv 0) (pa_cons (pe_bltn (v := .ty "tuple") (by rfl) T.tuple (by decide +kernel) rfl) pa_nil))) (pe_and (pe_chain op_le op_le pe_int (pe_callB (k_len K rfl) (by rfl) T.len (by decide +kernel) (pa_cons (pv 0) pa_nil)) (pe_glob (v := .int 12) rfl T.c_MOST_RINGS.choose_spec ⟨_, rfl⟩)) (pe_one (pe_callB (k_all K rfl rfl) (by rfl) T.all (by decide +kernel) (pa_cons (pe_lc (own := [("ring", 1)]) (g := gName 1) (tt := tYes) rfl sc.nd (k_piT K rfl (pv 0)) (blkOk_by (N := N_is_chain_in) (sc := defScope s_is_chain_in) (by decide +kernel)) (fun _ _ _ _ _ => (pg_name (i := 1) sc.nd rfl (.inl rfl))) (fun _ _ _ _ _ => pts_nil) (fun _ _ _ _ _ => (pe_call G_is_ring_in (hr.mono (by decide)) (by rfl) T.d_is_ring_in.at_ T.d_is_ring_in.fn.kp T.d_is_ring_in.bi .nil pass0 (pa_cons (pv 1) pa_nil)))) pa_nil))))))), ?_⟩
    refine s_ret e00 (er_andV (er_isTT (er_var rfl rc)) fun _ => er_andV (er_chain er_int (er_nat (er_lenT (er_var rfl rc)) rfl) er_int) fun _ => er_all (el_map (R := RRg) (fun _ => true) (ei_tup (er_var rfl rc)) (by omega) fun i x r H' hx e rr => tg_name (fun _ => rfl) (ev_c1 (er_var rfl rr) (ok.ok r (List.mem_of_getElem? hx))))) fun v H2 e p => q v H2 e.toSame ?_
    rw [show v = _ from p]
    simp
    omega
def sp_require_chain : Sp := sp1 RCh Cok fun _ v _ => v = .non
theorem ok_require_chain (T : Prog K mg A F) : FnOk P w K mg base CX0 5 (A 41) (F 41) ["value"] sp_require_chain := by
  have G_is_chain_in := ok_is_chain_in (P := P) (w := w) (base := base) T
  have sc := sc_require_chain
  refine T.d_require_chain.ok sc_require_chain (fun vs H Q E h => ?_) (fun cdv _ outer s H vs Q E hr h => ?_)
  · obtain ⟨_, _, rfl, _⟩ := h
    rfl
  · obtain ⟨v, ch, rfl, rc, ok, q⟩ := h
    refine ⟨_, (pss_one (ps_if (pt_not (pt_val (pe_call G_is_chain_in (hr.mono (by decide)) (by rfl) T.d_is_chain_in.at_ T.d_is_chain_in.fn.kp T.d_is_chain_in.bi .nil pass0 (pa_cons (pv 0) pa_nil)))) (pss_one ps_never) pss_nil)), ?_⟩
    refine s_when e00 (et_not (et_B (ev_c1 (er_var rfl rc) ok))) (fun z => by simp at z) fun _ H1 e1 => q _ H1 e1.toSame rfl
def boxI (c : Nat) (r : Int) : List Int := if 0 < c ∧ 0 < r then List.replicate c r else []
def sp_box_in : Sp := sp2 RN RI (fun c _ => c ≤ 1000) fun c r v H' => RHp H' v (boxI c r)
theorem ok_box_in (T : Prog K mg A F) : FnOk P w K mg base CX0 1 (A 21) (F 21) ["columns", "rows"] sp_box_in := by
  have sc := sc_box_in
  refine T.d_box_in.ok sc_box_in (fun vs H Q E h => ?_) (fun cdv _ outer s H vs Q E hr h => ?_)
  · obtain ⟨_, _, _, _, rfl, _⟩ := h
    rfl
  · obtain ⟨v, z, c, r, rfl, rc, rr, hc, q⟩ := h
    refine ⟨_, (pss_one (ps_ret (pe_ifExp (PW.pt (pw_and (pt_cmpR op_gt (pv 0) pe_int (nomark _)) (pw_and1 (pt_cmpR op_gt (pv 1) pe_int (nomark _))))) (pe_op (k_rep K rfl) (pe_tup (pa_cons (pv 1) pa_nil)) (pv 0)) (pe_tup pa_nil)))), ?_⟩
    refine s_ret e00 (er_if (et_and (et_test (er_gt (er_nat (er_var rfl rc) rfl) er_int)) fun _ => et_test (er_gt (er_var rfl rr) er_int)) (fun h => er_rep (er_tup1 (er_var rfl rr)) (er_nat (er_var rfl rc) rfl) rfl (by simp at h; omega) hc) fun _ => er_tup0) fun v H2 e p => q v H2 e.toSame ?_
    unfold boxI
    simp only [Bool.and_eq_true, decide_eq_true_eq] at p
    by_cases h : 0 < c ∧ 0 < r
    · rw [if_pos h]
      rw [if_pos (by omega)] at p
      exact p
    · rw [if_neg h]
      rw [if_neg (by omega)] at p
      exact p
def sp_addable_columns : Sp := sn1 RHp (fun h => h.length < 1000) fun h p H' => LAt H' p RN ((List.range (h.length + 1)).reverse.filter (KM.canAdd h))
theorem ok_addable_columns (T : Prog K mg A F) : FnOk P w K mg base CX0 1 (A 22) (F 22) ["heap"] sp_addable_columns := by
  have sc := sc_addable_columns
  refine T.d_addable_columns.ok sc_addable_columns (fun vs H Q E h => ?_) (fun cdv _ outer s H vs Q E hr h => ?_)
  · obtain ⟨_, _, rfl, _⟩ := h
    rfl
  · obtain ⟨v, h, rfl, rh, hl, q⟩ := h
    refine ⟨_, (pss_cons (ps_set (i := 1) sc.nd rfl (.inr rfl) (pe_tup (k_star K rfl (pv 0) (pa_cons pe_int pa_nil))))
      (pss_one (ps_ret (pe_lc (own := [("column", 2)]) (g := gName 2) rfl sc.nd (pi_range3 rfl T.range (pa_cons (pe_callB (k_len K rfl) (by rfl) T.len (by decide +kernel) (pa_cons (pv 0) pa_nil)) (pa_cons (pe_un un_neg pe_int) (pa_cons (pe_un un_neg pe_int) pa_nil)))) (blkOk_by (N := N_addable_columns) (sc := defScope s_addable_columns) (by decide +kernel)) (fun _ _ _ _ _ => (pg_name (i := 2) sc.nd rfl (.inl rfl))) (fun _ _ _ _ _ => (pts_one (PW.pt (pw_or (pt_cmpR op_eq (pv 2) pe_int (nomark _)) (pw_or1 (pt_cmpR op_gt (pe_ix (k_ixT K rfl) (pv 1) (pe_op op_sub (pv 2) pe_int) (fun _ _ => rfl)) (pe_ix (k_ixT K rfl) (pv 1) (pv 2) (fun _ _ => rfl)) (nomark _))))))) (fun _ _ _ _ _ => (pv 2)))))), ?_⟩
    refine q_set e00 (er_starT (er_var rfl rh) er_int (by omega)) fun z H1 e1 rz => ?_
    have rh := e1.mo rh
    refine s_retN e00 (el_lc (R := RN) (S := RN) (KM.canAdd h) id (ei_rngR (er_nat (er_lenT (er_var rfl rh)) rfl) (er_neg er_int) (er_neg er_int) rfl rfl (by omega)) (by simp; omega) fun i x c H' hx e rc => tg_name (fun _ => rfl) ⟨?_, fun _ => er_var rfl rc⟩) fun a H2 hn e2 la => q a H2 (e1.there _ hn) (e1.trans e2).toSame (by simpa using la)
    have hc : c < h.length + 1 := by
      have := List.mem_of_getElem? hx
      rw [List.mem_reverse, List.mem_range] at this
      exact this
    have rz := e.mo rz
    refine (et_or (et_test (er_eq (er_nat (er_var rfl rc) rfl) er_int)) fun h0 => et_test (er_gt (er_ixT (j := c - 1) (er_var rfl rz) (er_sub (er_nat (er_var rfl rc) rfl) er_int) (by simp at h0; omega) (hz_get h (by omega))) (er_ixT (j := c) (er_var rfl rz) (er_nat (er_var rfl rc) rfl) rfl (hz_get h (by omega))))).eq ?_
    unfold KM.canAdd
    congr 1
    simp
end KX
namespace KX
open PySem PySem.Spec PyProof.Rows L2
section
variable {K : PySem.W.Frag} {M : Ads} {D : Option Addr} {σ : L2.St} {H H0 : Hp} {ta tb tc te : TE} {α β : Type} {R : Rel α} {S : Rel β} {B : Ends} {tz : TS}
/-- [x] * n -/
theorem el_rep {a : α} {n : Nat} {i : Int} [Mo R] (ha : EvL M D ta σ H R [a]) (hb : EvR M D tb σ H RI i) (hi : i = (n : Int)) (hn : n < 50000) : EvL M D (tOp rRep ta tb) σ H R (List.replicate n a) := fun H1 e Q q =>
  ha H1 e _ fun p H2 hp e2 ⟨xs, h1, h2⟩ => hb H2 (e.then e2) _ fun y H3 e3 py => by
    have npD : D ≠ some p := fun z => by
      obtain ⟨_, _, _, w⟩ := e.good.dice p z
      rw [hp] at w
      cases w
    have h3 := e3.keep _ _ (fun z => z) npD h1
    obtain ⟨x0, rfl, r⟩ : ∃ x0, xs = [x0] ∧ R H2 x0 a := by
      cases h2 with
      | cons r t =>
        cases t
        exact ⟨_, rfl, r⟩
    refine ⟨p, i, [x0], rfl, py, h3, by omega, by omega, by rw [sizeLine_eq]; simp; omega, fun c hc => ?_⟩
    have e9 : (List.replicate i.toNat [x0]).flatten = List.replicate n x0 := by
      rw [show i.toNat = n by omega, List.flatten_replicate_singleton]
    rw [e9]
    have ex := (Ex.refl e3.good).new (o := .lst (List.replicate n x0)) hc
    exact q c _ (e2.there _ (e3.there _ hc)) ((e2.trans e3).trans ex) ⟨_, upd_same, paired_rep (ex.mo (e3.mo r)) n⟩
/-- (*t, *l), [*t, *l], l a new list -/
theorem ea_star2 {l m : List α} [Mo R] (ha : EvR M D ta σ H (RT R) l) (hb : EvL M D tb σ H R m) : EvA M D (StX.tStar K ta (StX.tStar K tb tNil)) σ H fun vs H' => Paired (R H') vs (l ++ m) := fun H1 e Q q =>
  ha H1 e _ fun v H2 e2 ⟨a, ys, e4, h1, p1⟩ => ⟨a, ys, e4, .inl (SqT.of h1), hb H2 (e.then e2) _ fun p H3 hp e3 ⟨zs, h2, p2⟩ => ⟨p, zs, rfl, .inr (SqL.of h2), by
    show Q (ys ++ (zs ++ [])) H3
    rw [List.append_nil]
    exact q _ H3 (e2.trans e3) (paired_app (paired_mono (fun _ _ z => e3.mo z) p1) p2)⟩⟩
theorem er_star2 {l m : List α} [Mo R] (ha : EvR M D ta σ H (RT R) l) (hb : EvL M D tb σ H R m) (hl : (l ++ m).length < 50000) : EvR M D (tTup (StX.tStar K ta (StX.tStar K tb tNil))) σ H (RT R) (l ++ m) :=
  ev_tup (ea_star2 ha hb) (fun vs H' p => by rw [Paired.length p]; omega) fun vs H1 a H2 p k h => ⟨a, vs, rfl, h, paired_mono (fun _ _ z => Mo.mono k z) p⟩
theorem el_star2 {l m : List α} [Mo R] (ha : EvR M D ta σ H (RT R) l) (hb : EvL M D tb σ H R m) (hl : (l ++ m).length < 50000) : EvL M D (tLst (StX.tStar K ta (StX.tStar K tb tNil))) σ H R (l ++ m) :=
  en_lst (ea_star2 ha hb) (fun vs H' p => by rw [Paired.length p]; omega) fun vs H1 a H2 p k h => ⟨vs, h, paired_mono (fun _ _ z => Mo.mono k z) p⟩
/-- l[i] += e -/
theorem ev_aug {l : List Int} {p : Addr} {i k x : Int} {j : Nat} (ho : Ev M0 D ta σ H fun v _ => v = .ref p) (hi : EvR M0 D tb σ H RI i) (he : EvR M0 D te σ H RI k) (hl : LAt H p RI l) (hij : i = (j : Int)) (hj : l[j]? = some x) (hp : M p) (hd : D ≠ some p) (g : Good M D H) (kont : ∀ H2, Ex M D H H2 → LAt H2 p RI (l.set j (x + k)) → B.nx σ H2) : tAugS ta tb te (rIxL K) (ipI fun i j => i + j) rSetL B σ H :=
  ho H (Ex.refl g.m0) _ fun o H1 e1 po => hi H1 e1 _ fun y H2 e2 py => by
    obtain ⟨xs, h1, h2⟩ := (e1.trans e2).lat (fun z => z) hd hl
    obtain ⟨v, h3, h4⟩ := paired_at h2 hj
    refine ⟨p, xs, i, v, po, py, SqL.of h1, by rw [hij]; exact atI_nat h3, he H2 (e1.trans e2) _ fun z H3 e3 pz => ⟨x, k, h4, pz, ?_⟩⟩
    obtain ⟨xs2, h5, h6⟩ := e3.lat (fun z => z) hd ((e1.trans e2).lat (fun z => z) hd hl)
    have hlt := (List.getElem?_eq_some_iff.mp hj).1
    refine ⟨p, xs2, i, j, po, py, h5, ?_, kont _ ((((e1.trans e2).trans e3).up g).put hp hd h5 rfl (fun z => nomatch z)) ?_⟩
    · rw [hij]
      have := Paired.length h6
      unfold ixN
      rw [if_pos (by omega)]
      simp
      omega
    · have tk : Sta H3 (upd H3 p (.lst (xs2.set j (.int (x + k))))) := Sta.put h5 rfl (fun z => nomatch z)
      exact ⟨_, upd_same, paired_set (F := RI (upd H3 p (.lst (xs2.set j (.int (x + k)))))) (x := .int (x + k)) (y := x + k) rfl j (paired_mono (fun _ _ w => Mo.mono tk w) h6)⟩
end
variable {P : Program} {w : World} {K : PySem.W.Frag} {mg : Str → Option Value} {base : PySem.Heap} {A : Nat → Addr} {F : Nat → FuncData}
theorem numd_map {α β : Type} {l : List α} {f : Nat × α → β} {g : Nat → β} {n : Nat} (hn : l.length = n) (h : ∀ i a, l[i]? = some a → f (i, a) = g i) : (numd l).map f = (List.range n).map g := by
  subst hn
  refine List.ext_getElem? fun i => ?_
  rw [List.getElem?_map, List.getElem?_map]
  by_cases e : i < l.length
  · rw [numd_get (List.getElem?_eq_getElem e), List.getElem?_range e]
    show some _ = some _
    rw [h i _ (List.getElem?_eq_getElem e)]
  · rw [List.getElem?_eq_none_iff.mpr (by unfold numd; simp; omega), List.getElem?_eq_none_iff.mpr (by simp; omega)]
    rfl
def sp_risen : Sp := sp2 RHp (RLs RN) (fun h _ => h.length < 1000) fun h cols v H' => RHp H' v (KM.ofF (h.length + 1) fun c => KM.hgt h c + if c ∈ cols then 1 else 0)
theorem ok_risen (T : Prog K mg A F) : FnOk P w K mg base CX0 1 (A 23) (F 23) ["heap", "columns"] sp_risen := by
  have sc := sc_risen
  refine T.d_risen.ok sc_risen (fun vs H Q E h => ?_) (fun cdv _ outer s H vs Q E hr h => ?_)
  · obtain ⟨_, _, _, _, rfl, _⟩ := h
    rfl
  · obtain ⟨v, z, h, cols, rfl, rh, ⟨cp, rfl, lc⟩, hl, q⟩ := h
    refine ⟨_, (pss_cons (ps_setLc (i := 2) (own := [("column", 3), ("height", 4)]) (g := gTup K 2 (gCons (gName 3) (gCons (gName 4) gNil))) (tt := tYes) rfl sc.nd rfl rfl (sw_true rfl rfl rfl (by decide +kernel)) (k_enum K rfl (by rfl) T.enumerate (pa_cons (pe_tup (k_star K rfl (pv 0) (pa_cons pe_int pa_nil))) pa_nil)) (blkOk_by (N := N_risen) (sc := defScope s_risen) (by decide +kernel)) (fun _ _ _ _ _ => (k_pgT K rfl rfl (pgs_cons (pg_name (i := 3) sc.nd rfl (.inl rfl)) (pgs_cons (pg_name (i := 4) sc.nd rfl (.inl rfl)) pgs_nil)))) (fun _ _ _ _ _ => pts_nil) (fun _ _ _ _ _ => (pe_op op_add (pv 4) (pe_callTy call_int1 (by rfl) T.int (by decide +kernel) (pa_cons (pe_cmpR (k_in K rfl) (pv 3) (pv 1) (by rfl)) pa_nil)))))
      (pss_one (ps_ret (pe_callTy (k_tupOf K rfl) (by rfl) T.tuple (by decide +kernel) (pa_cons (pe_lc (own := [("height", 4)]) (g := gName 4) rfl sc.nd (k_piL K rfl (pv 2)) (blkOk_by (N := N_risen) (sc := defScope s_risen) (by decide +kernel)) (fun _ _ _ _ _ => (pg_name (i := 4) sc.nd rfl (.inl rfl))) (fun _ _ _ _ _ => (pts_one (pt_cmpR op_gt (pv 4) pe_int (nomark _)))) (fun _ _ _ _ _ => (pv 4))) pa_nil))))), ?_⟩
    refine q_new e00 (el_map (R := RP RN RI) (S := RI) (fun p : Nat × Int => p.2 + if decide (p.1 ∈ cols) = true then 1 else 0) (ei_enumT (er_starT (er_var rfl rh) er_int (by omega))) (by unfold numd; simp; omega) fun i x p H' hx e r => tg_pair r (fun _ _ => rfl) fun x y r1 r2 => er_add (er_var rfl r2) (er_intb (er_inL (er_var rfl r1) (ev_var rfl) (e.lat (fun z => z) (fun z => nomatch z) lc) (fun z => z) (fun z => nomatch z)))) fun a H1 hn e1 la => ?_
    refine s_ret (Ex.refl good0) (er_tupL (el_lc (R := RI) (S := RI) (fun x => decide (0 < x)) id (ei_lst (ev_var rfl) la (fun z => z) (fun z => nomatch z)) (by unfold numd; simp; omega) fun i x b H' hx e rb => tg_name (fun _ => rfl) ⟨et_test (er_gt (er_var rfl rb) er_int), fun _ => er_var rfl rb⟩)) fun v H2 e p => q v H2 (e1.trans e).toSame ?_
    rw [numd_map (n := h.length + 1) (g := fun c => KM.hgt h c + if c ∈ cols then 1 else 0) (by simp) (fun i a hi => by
      have hlt : i < h.length + 1 := by
        have := (List.getElem?_eq_some_iff.mp hi).1
        simpa using this
      rw [hz_get h (by omega)] at hi
      cases hi
      simp), List.map_id] at p
    exact p
theorem rep_nil {p : List Int} {n : Nat} {c : Nat} (hc : c < n) (hp : p.length ≤ n) : (p ++ List.replicate (n - p.length) (0 : Int))[c]? = some (KM.hgt p c) := by
  by_cases q : c < p.length
  · rw [List.getElem?_append_left q, List.getElem?_eq_getElem q, KM.hgt_lt p q]
  · rw [List.getElem?_append_right (by omega), KM.hgt_ge p (by omega), List.getElem?_replicate, if_pos (by omega)]
def sp_grown_in : Sp := sp3 RHp RRg RI (fun h r _ => h.length < 1000 ∧ Rok r) fun h r x v H' => RHp H' v (KM.grow h r x)
theorem ok_grown_in (T : Prog K mg A F) : FnOk P w K mg base CX0 2 (A 24) (F 24) ["heap", "ring", "place"] sp_grown_in := by
  have G_addable_columns := ok_addable_columns (P := P) (w := w) (base := base) T
  have G_risen := ok_risen (P := P) (w := w) (base := base) T
  have sc := sc_grown_in
  refine T.d_grown_in.ok sc_grown_in (fun vs H Q E h => ?_) (fun cdv _ outer s H vs Q E hr h => ?_)
  · obtain ⟨_, _, _, _, _, _, rfl, _⟩ := h
    rfl
  · obtain ⟨v, y, z, h, r, x, rfl, rh, rr, rx, ⟨hl, hr'⟩, q⟩ := h
    have h1 := hr'.ok.two
    have h4 := hr'.le
    have h2 := hr'.ok.s1
    have h3 := hr'.ok.s2
    refine ⟨_, (pss_cons (ps_asg (pv 1) (k_pgT K rfl rfl (pgs_cons (pg_name (i := 3) sc.nd rfl (.inr rfl)) (pgs_cons (pg_name (i := 4) sc.nd rfl (.inr rfl)) pgs_nil))))
      (pss_cons (ps_set (i := 5) sc.nd rfl (.inr rfl) (pe_tup (k_star K rfl (pv 0) (pa_cons pe_int pa_nil))))
      (pss_cons (ps_setLc (i := 6) (own := [("column", 7)]) (g := gName 7) (tt := tYes) rfl sc.nd rfl rfl (sw_true rfl rfl rfl (by decide +kernel)) (k_piL K rfl (pe_call G_addable_columns (hr.mono (by decide)) (by rfl) T.d_addable_columns.at_ T.d_addable_columns.fn.kp T.d_addable_columns.bi .nil pass0 (pa_cons (pv 0) pa_nil))) (blkOk_by (N := N_grown_in) (sc := defScope s_grown_in) (by decide +kernel)) (fun _ _ _ _ _ => (pg_name (i := 7) sc.nd rfl (.inl rfl))) (fun _ _ _ _ _ => pts_nil) (fun _ _ _ _ _ => (pe_tup (pa_cons (pv 7) (pa_cons (pe_op op_sub (pv 7) (pe_ix (k_ixT K rfl) (pv 5) (pv 7) (fun _ _ => rfl))) pa_nil)))))
      (pss_one (ps_ret (pe_call G_risen (hr.mono (by decide)) (by rfl) T.d_risen.at_ T.d_risen.fn.kp T.d_risen.bi .nil pass0 (pa_cons (pv 0) (pa_cons (pe_lc (own := [("column", 7), ("diagonal", 8)]) (g := gTup K 2 (gCons (gName 7) (gCons (gName 8) gNil))) rfl sc.nd (k_piL K rfl (pv 6)) (blkOk_by (N := N_grown_in) (sc := defScope s_grown_in) (by decide +kernel)) (fun _ _ _ _ _ => (k_pgT K rfl rfl (pgs_cons (pg_name (i := 7) sc.nd rfl (.inl rfl)) (pgs_cons (pg_name (i := 8) sc.nd rfl (.inl rfl)) pgs_nil)))) (fun _ _ _ _ _ => (pts_one (pt_cmpR op_eq (pe_op op_mod (pe_op op_sub (pe_op op_mul (pv 8) (pv 4)) (pv 2)) (pv 3)) pe_int (nomark _)))) (fun _ _ _ _ _ => (pv 7))) pa_nil)))))))), ?_⟩
    refine q_pair e00 (er_var rfl rr) fun vn vs H1 e1 rn rs => ?_
    refine q_set (Ex.refl good0) (er_starT (er_var rfl (e1.mo rh)) er_int (by omega)) fun vz H2 e2 rz => ?_
    have e12 := e1.trans e2
    refine q_new (Ex.refl good0) (el_map (R := RN) (S := RP RN RI) (fun c : Nat => (c, (c : Int) - KM.hgt h c)) (ei_new (en_c1 (er_var rfl (e12.mo rh)) hl)) (by
        refine Nat.lt_of_le_of_lt (List.length_filter_le _ _) ?_
        simp
        omega) fun i x c H' hx e rc => tg_name (fun _ => rfl) (er_pair (er_var rfl rc) (er_sub (er_nat (er_var rfl rc) rfl) (er_ixT (j := c) (er_var rfl (e.mo rz)) (er_nat (er_var rfl rc) rfl) rfl (hz_get h (by
          have := (List.mem_filter.mp (List.mem_of_getElem? hx)).1
          rw [List.mem_reverse, List.mem_range] at this
          omega)))))) fun a H3 hn e3 la => ?_
    have e13 := e12.trans e3
    refine s_ret (Ex.refl good0) (ev_c2 (er_var rfl (e13.mo rh)) (er_ofL (el_lc (R := RP RN RI) (S := RN) (fun p : Nat × Int => KM.lets r x p.2) (fun p => p.1) (ei_lst (ev_var rfl) la (fun z => z) (fun z => nomatch z)) (by
        rw [List.length_map]
        refine Nat.lt_of_le_of_lt (List.length_filter_le _ _) ?_
        simp
        omega) fun i x' p H' hx e rp => tg_pair rp (fun _ _ => rfl) fun u v ru rv => ⟨(et_test (er_eq (er_mod (er_sub (er_mul (er_var rfl rv) (er_var rfl (e.mo ((e2.trans e3).mo rs))) (.inr (by omega))) (er_var rfl ((e13.trans e).mo rx))) (er_var rfl (e.mo ((e2.trans e3).mo rn))) (by omega)) er_int)).eq ?_, fun _ => er_var rfl ru⟩)) hl) fun v H4 e p => q v H4 (e13.trans e).toSame ?_
    · rfl
    · have e9 : ∀ c, (c ∈ (((((List.range (h.length + 1)).reverse.filter (KM.canAdd h)).map fun c : Nat => (c, (c : Int) - KM.hgt h c)).filter fun p : Nat × Int => KM.lets r x p.2).map fun p => p.1)) ↔ c < h.length + 1 ∧ KM.canAdd h c = true ∧ KM.lets r x ((c : Int) - KM.hgt h c) = true := fun c => by
        simp only [List.mem_map, List.mem_filter, List.mem_reverse, List.mem_range]
        constructor
        · rintro ⟨p, ⟨⟨c', ⟨h1, h2⟩, rfl⟩, h3⟩, rfl⟩
          exact ⟨h1, h2, h3⟩
        · rintro ⟨h1, h2, h3⟩
          exact ⟨_, ⟨⟨c, ⟨h1, h2⟩, rfl⟩, h3⟩, rfl⟩
      have e10 : KM.grow h r x = KM.ofF (h.length + 1) fun c => KM.hgt h c + if c ∈ (((((List.range (h.length + 1)).reverse.filter (KM.canAdd h)).map fun c : Nat => (c, (c : Int) - KM.hgt h c)).filter fun p : Nat × Int => KM.lets r x p.2).map fun p => p.1) then 1 else 0 := by
        unfold KM.grow KM.growP KM.ofF
        congr 1
        refine List.map_congr_left fun c hc => ?_
        have hc := List.mem_range.mp hc
        unfold KM.rise
        congr 1
        by_cases g : KM.canAdd h c = true ∧ KM.lets r x ((c : Int) - KM.hgt h c) = true
        · rw [if_pos (by rw [g.1, g.2]; rfl), if_pos ((e9 c).mpr ⟨hc, g⟩)]
        · rw [if_neg (fun z => g (Bool.and_eq_true_iff.mp z)), if_neg (fun z => g ((e9 c).mp z).2)]
      show RHp H4 v (KM.grow h r x)
      rw [e10]
      exact p
end KX
namespace KX
open PySem PySem.Spec PyProof.Rows L2
def sp4 {α β γ δ : Type} (R : Rel α) (S : Rel β) (T : Rel γ) (U : Rel δ) (pre : α → β → γ → δ → Prop) (post : α → β → γ → δ → V → Hp → Prop) : Sp := fun vs H Q _ => ∃ v w z y a b c d, vs = [v, w, z, y] ∧ R H v a ∧ S H w b ∧ T H z c ∧ U H y d ∧ pre a b c d ∧ ∀ u H', Same H H' → post a b c d u H' → Q u H'
section
variable {K : PySem.W.Frag} {M : Ads} {D : Option Addr} {σ : L2.St} {H H0 : Hp} {ta tb tc td te : TE} {α β γ δ : Type} {R : Rel α} {S : Rel β} {T : Rel γ} {U : Rel δ} {B : Ends} {tz : TS}
theorem ev_c4 {pre : α → β → γ → δ → Prop} {post : α → β → γ → δ → V → Hp → Prop} {a : α} {b : β} {c : γ} {d : δ} [Mo R] [Mo S] [Mo T] (h1 : EvR M D ta σ H R a) (h2 : EvR M D tb σ H S b) (h3 : EvR M D tc σ H T c) (h4 : EvR M D td σ H U d) (hp : pre a b c d) : Ev M D (tCall (sp4 R S T U pre post) [] E0 (tCons ta (tCons tb (tCons tc (tCons td tNil))))) σ H (post a b c d) :=
  ev_call (ea_cons h1 (ea_cons h2 (ea_cons h3 (ea_one h4)))) fun vs H1 e ⟨v, r, ev, p1, w, r2, ew, p2, z, r3, ez, p3, y, ey, p4⟩ Q q => ⟨v, w, z, y, a, b, c, d, by rw [ev, ew, ez, ey]; rfl, p1, p2, p3, p4, hp, fun u H' s p => q u H' (Ex.same e.good.m0 s) p⟩
/-- the last item of a list that stands -/
theorem er_ixLl {l : List α} {a : α} {p : Addr} (ha : Ev M D ta σ H fun v _ => v = .ref p) (hb : EvR M D tb σ H RI (-1)) (hl : LAt H p R l) (hm : ¬ M p) (hd : D ≠ some p) (hj : l.getLast? = some a) [Mo R] : EvR M D (tOp (rIxL K) ta tb) σ H R a := fun H1 e Q q =>
  ha H1 e _ fun x H2 e2 px => hb H2 (e.then e2) _ fun y H3 e3 py => by
    obtain ⟨xs, h1, h2⟩ := ((e.then e2).then e3).lat hm hd hl
    rw [List.getLast?_eq_getElem?] at hj
    obtain ⟨v, h3, h4⟩ := paired_at h2 hj
    have hne : xs ≠ [] := fun z => by rw [z] at h3; simp at h3
    have e5 := (List.dropLast_concat_getLast hne).symm
    have ev : v = xs.getLast hne := by
      have h6 := List.getLast?_eq_some_getLast hne
      rw [List.getLast?_eq_getElem?, Paired.length h2, h3] at h6
      exact Option.some.inj h6
    have h7 := atI_last xs.dropLast (xs.getLast hne)
    rw [← e5, ← ev] at h7
    exact ⟨p, xs, -1, v, px, py, SqL.of h1, h7, q v H3 (e2.trans e3) h4⟩
end
variable {P : Program} {w : World} {K : PySem.W.Frag} {mg : Str → Option Value} {base : PySem.Heap} {A : Nat → Addr} {F : Nat → FuncData}
theorem good1 {H : Hp} {p : Addr} (h : H p ≠ none) : Good (fun a => a = p) none H := ⟨fun a e => by rw [e]; exact h, fun _ z => nomatch z⟩
theorem lat_some {α : Type} {R : Rel α} {H : Hp} {p : Addr} {l : List α} (h : LAt H p R l) : H p ≠ none := by
  obtain ⟨xs, e, _⟩ := h
  rw [e]
  exact fun z => nomatch z
/-- back to the entry: what was made here may have changed -/
theorem back1 {H H1 H2 : Hp} {p : Addr} (e : Ex M0 none H H1) (hn : H p = none) (e2 : Ex (fun a => a = p) none H1 H2) : Same H H2 := (e.drop e2 (fun a h => .inr (by rw [h]; exact hn)) (fun _ h => h.elim)).toSame
def heapsL (ch : List KM.Rg) (x : List Int) (i : Nat) : List (List Int) := (List.range (i + 1)).map fun j => KM.heapOf (ch.take j) (x.take j)
theorem heapsL_last (ch : List KM.Rg) (x : List Int) (i : Nat) : (heapsL ch x i).getLast? = some (KM.heapOf (ch.take i) (x.take i)) := by
  unfold heapsL
  rw [List.range_succ, List.map_append]
  simp
theorem ofF_len (n : Nat) (f : Nat → Int) : (KM.ofF n f).length ≤ n := by
  unfold KM.ofF
  refine Nat.le_trans (List.length_filter_le _ _) ?_
  simp
theorem heapFrom_len : ∀ (ch : List KM.Rg) (x h : List Int), (KM.heapFrom h ch x).length ≤ h.length + ch.length
  | [], _, h => by unfold KM.heapFrom; exact Nat.le_refl _
  | _ :: _, [], h => by unfold KM.heapFrom; omega
  | r :: ch, x :: xs, h => by
    unfold KM.heapFrom
    have := heapFrom_len ch xs (KM.grow h r x)
    have h2 : (KM.grow h r x).length ≤ h.length + 1 := ofF_len _ _
    rw [List.length_cons]
    omega
theorem heapOf_len (ch : List KM.Rg) (x : List Int) : (KM.heapOf ch x).length ≤ ch.length := by
  have := heapFrom_len ch x []
  simpa [KM.heapOf] using this
def sp_heaps_in : Sp := sp2 RCh RHp (fun ch x => Cok ch ∧ ch.length = x.length) fun ch x v H' => RT RHp H' v (heapsL ch x ch.length)
theorem ok_heaps_in (T : Prog K mg A F) : FnOk P w K mg base CX0 3 (A 25) (F 25) ["chain", "places"] sp_heaps_in := by
  have G_grown_in := ok_grown_in (P := P) (w := w) (base := base) T
  have sc := sc_heaps_in
  refine T.d_heaps_in.ok sc_heaps_in (fun vs H Q E h => ?_) (fun cdv _ outer s H vs Q E hr h => ?_)
  · obtain ⟨_, _, _, _, rfl, _⟩ := h
    rfl
  · obtain ⟨v, y, ch, x, rfl, rc, rx, ⟨ok, hl⟩, q⟩ := h
    have h12 := ok.most
    refine ⟨_, (pss_cons (ps_set (i := 2) sc.nd rfl (.inl rfl) (pe_lst (pa_cons (pe_tup pa_nil) pa_nil)))
      (pss_cons (ps_for PassesOwn.never rfl (k_zip K rfl (by rfl) T.zip (pa_cons (pv 0) (pa_cons (pv 1) pa_nil))) (k_pgT K rfl rfl (pgs_cons (pg_name (i := 3) sc.nd rfl (.inl rfl)) (pgs_cons (pg_name (i := 4) sc.nd rfl (.inl rfl)) pgs_nil))) (pss_one (ps_expr (pe_bm PySem.F.plainAttrs_list PySem.F.slot_list_append PySem.F.type_list_append mt_append (pv 2) (pa_cons (pe_call G_grown_in (hr.mono (by decide)) (by rfl) T.d_grown_in.at_ T.d_grown_in.fn.kp T.d_grown_in.bi .nil pass0 (pa_cons (pe_ix (k_ixL K rfl) (pv 2) (pe_un un_neg pe_int) (fun _ _ => rfl)) (pa_cons (pv 3) (pa_cons (pv 4) pa_nil)))) pa_nil)))))
      (pss_one (ps_ret (pe_callTy (k_tupOf K rfl) (by rfl) T.tuple (by decide +kernel) (pa_cons (pv 2) pa_nil)))))), ?_⟩
    refine q_new e00 (el_one (er_tup0 (R := RI))) fun f H1 hn e1 lf => ?_
    have g1 := good1 (lat_some lf)
    refine q_for (Ex.refl g1) (ei_zipT (er_var rfl (e1.mo rc)) (er_var rfl (e1.mo rx))) (fun i σ' H' => (∃ a b, σ' = [some v, some y, some (.ref f), a, b]) ∧ LAt H' f RHp (heapsL ch x i)) ⟨⟨none, none, rfl⟩, by simpa [heapsL, KM.heapOf, KM.heapFrom] using lf⟩ (fun i σ' H' H'' ⟨h1, h2⟩ e => ⟨h1, e.lat (fun z => z) (fun z => nomatch z) h2⟩) ?_ ?_
    · rintro i u p σ' H' hx e r ⟨⟨a, b, rfl⟩, hlat⟩ N hN
      obtain ⟨hx1, hx2⟩ := List.getElem?_zip_eq_some.mp hx
      have hi := (List.getElem?_eq_some_iff.mp hx1).1
      refine g_pair r fun vr vp rr rp => ?_
      refine ev_app (D := none) (M := fun a => a = f) (l := heapsL ch x i) (ev_var rfl) hlat (by simp [heapsL]; omega) rfl (fun z => nomatch z) e.good (ev_c3 (er_ixLl (ev_var rfl) (er_neg er_int) hlat (fun z => z) (fun z => nomatch z) (heapsL_last ch x i)) (er_var rfl rr) (er_var rfl rp) ⟨?_, ok.ok _ (List.mem_of_getElem? hx1)⟩) fun H2 e2 l2 => hN _ H2 e2 ⟨⟨_, _, rfl⟩, ?_⟩
      · have := heapOf_len (ch.take i) (x.take i)
        rw [List.length_take] at this
        omega
      · have e9 : heapsL ch x (i + 1) = heapsL ch x i ++ [KM.grow (KM.heapOf (ch.take i) (x.take i)) p.1 p.2] := by
          unfold heapsL
          rw [List.range_succ (n := i + 1), List.map_append, List.map_singleton, take_step hx1, take_step hx2, KM.heapOf_snoc (by rw [List.length_take, List.length_take]; omega)]
        rw [e9]
        exact l2
    · rintro σ' H' e ⟨⟨a, b, rfl⟩, hlat⟩
      refine s_ret (Ex.refl good0) (er_tupA (ev_var rfl) hlat (fun z => z) (fun z => nomatch z)) fun v H2 e2 p => q v H2 ((back1 e1 hn e).trans e2.toSame) ?_
      have e9 : (ch.zip x).length = ch.length := by rw [List.length_zip]; omega
      rw [e9] at p
      exact p
def sp_heap_in : Sp := sp2 RCh RHp (fun ch x => Cok ch ∧ ch.length = x.length) fun ch x v H' => RHp H' v (KM.heapOf ch x)
theorem ok_heap_in (T : Prog K mg A F) : FnOk P w K mg base CX0 4 (A 26) (F 26) ["chain", "places"] sp_heap_in := by
  have G_heaps_in := ok_heaps_in (P := P) (w := w) (base := base) T
  have sc := sc_heap_in
  refine T.d_heap_in.ok sc_heap_in (fun vs H Q E h => ?_) (fun cdv _ outer s H vs Q E hr h => ?_)
  · obtain ⟨_, _, _, _, rfl, _⟩ := h
    rfl
  · obtain ⟨v, y, ch, x, rfl, rc, rx, ok, q⟩ := h
    refine ⟨_, (pss_one (ps_ret (pe_ix (k_ixT K rfl) (pe_call G_heaps_in (hr.mono (by decide)) (by rfl) T.d_heaps_in.at_ T.d_heaps_in.fn.kp T.d_heaps_in.bi .nil pass0 (pa_cons (pv 0) (pa_cons (pv 1) pa_nil))) (pe_un un_neg pe_int) (fun _ _ => rfl)))), ?_⟩
    refine s_ret e00 (er_ixTl (a := KM.heapOf ch x) (ev_c2 (er_var rfl rc) (er_var rfl rx) ok) (er_neg er_int) ?_) fun v H2 e p => q v H2 e.toSame p
    rw [heapsL_last, List.take_length, ok.2, List.take_length]
theorem boxI_len (c : Nat) (r : Int) : (boxI c r).length ≤ c := by
  unfold boxI
  split <;> simp
def sp_is_rich_in : Sp := sp4 RCh RI RHp RN (fun ch _ x k => Cok ch ∧ ch.length = x.length ∧ k ≤ 900) fun ch d x k v _ => v = .bl (KM.holdsB (KM.heapOf ch x) (boxI (k + 1) ((ch.length : Int) - d + k)))
theorem ok_is_rich_in (T : Prog K mg A F) : FnOk P w K mg base CX0 5 (A 28) (F 28) ["chain", "degree", "places", "k"] sp_is_rich_in := by
  have G_box_in := ok_box_in (P := P) (w := w) (base := base) T
  have G_heap_in := ok_heap_in (P := P) (w := w) (base := base) T
  have G_holds_in := ok_holds_in (P := P) (w := w) (base := base) T
  have sc := sc_is_rich_in
  refine T.d_is_rich_in.ok sc_is_rich_in (fun vs H Q E h => ?_) (fun cdv _ outer s H vs Q E hr h => ?_)
  · obtain ⟨_, _, _, _, _, _, _, _, rfl, _⟩ := h
    rfl
  · obtain ⟨v, vd, vx, vk, ch, d, x, k, rfl, rc, rd, rx, rk, ⟨ok, hl, hk⟩, q⟩ := h
    have h12 := ok.most
    have b1 := heapOf_len ch x
    have b2 := boxI_len (k + 1) ((ch.length : Int) - d + k)
    refine ⟨_, (pss_one (ps_ret (pe_call G_holds_in (hr.mono (by decide)) (by rfl) T.d_holds_in.at_ T.d_holds_in.fn.kp T.d_holds_in.bi .nil pass0 (pa_cons (pe_call G_heap_in (hr.mono (by decide)) (by rfl) T.d_heap_in.at_ T.d_heap_in.fn.kp T.d_heap_in.bi .nil pass0 (pa_cons (pv 0) (pa_cons (pv 2) pa_nil))) (pa_cons (pe_call G_box_in (hr.mono (by decide)) (by rfl) T.d_box_in.at_ T.d_box_in.fn.kp T.d_box_in.bi .nil pass0 (pa_cons (pe_op op_add (pv 3) pe_int) (pa_cons (pe_op op_add (pe_op op_sub (pe_callB (k_len K rfl) (by rfl) T.len (by decide +kernel) (pa_cons (pv 0) pa_nil)) (pv 1)) (pv 3)) pa_nil))) pa_nil))))), ?_⟩
    exact s_ret e00 (ev_c2 (ev_c2 (er_var rfl rc) (er_var rfl rx) ⟨ok, hl⟩) (ev_c2 (er_toN (n := k + 1) (er_add (er_nat (er_var rfl rk) rfl) er_int) (by omega)) (er_add (er_sub (er_nat (er_lenT (er_var rfl rc)) rfl) (er_var rfl rd)) (er_nat (er_var rfl rk) rfl)) (by omega)) ⟨by omega, by omega⟩) fun v H2 e p => q v H2 e.toSame p
def tupA (ch : List KM.Rg) : A0 → Bool
  | .tupi l => decide (l.length = ch.length) && (ch.zip l).all fun p => decide (0 ≤ p.2) && decide (p.2 ≤ p.1.1 - 1)
  | _ => false
theorem tupA_t (ch : List KM.Rg) (l : List Int) : tupA ch (.tupi l) = (decide (l.length = ch.length) && (ch.zip l).all fun p => decide (0 ≤ p.2) && decide (p.2 ≤ p.1.1 - 1)) := rfl
theorem isW_i (i l m : Int) : (A0.int i).isW l m = (decide (l ≤ i) && decide (i ≤ m)) := rfl
def sp_is_tuple_in : Sp := sp2 RCh RA0 (fun ch a => Cok ch) fun ch a v _ => v = .bl (tupA ch a)
theorem ok_is_tuple_in (T : Prog K mg A F) : FnOk P w K mg base CX0 3 (A 19) (F 19) ["chain", "value"] sp_is_tuple_in := by
  have G_is_within := ok_is_within (P := P) (w := w) (base := base) T
  have sc := sc_is_tuple_in
  refine T.d_is_tuple_in.ok sc_is_tuple_in (fun vs H Q E h => ?_) (fun cdv _ outer s H vs Q E hr h => ?_)
  · obtain ⟨_, _, _, _, rfl, _⟩ := h
    rfl
  · obtain ⟨v, y, ch, a, rfl, rc, ra, ok, q⟩ := h
    have h12 := ok.most
    refine ⟨_, (pss_cons (ps_if (PW.pt (pw_or (pt_not (pt_val (pe_callB (k_isi K rfl) (by rfl) T.isinstance (by decide +kernel) (pa_cons (pv 1) (pa_cons (pe_bltn (v := .ty "tuple") (by rfl) T.tuple (by decide +kernel) rfl) pa_nil))))) (pw_or1 (pt_cmpR op_ne (pe_callB (k_len K rfl) (by rfl) T.len (by decide +kernel) (pa_cons (pv 1) pa_nil)) (pe_callB (k_len K rfl) (by rfl) T.len (by decide +kernel) (pa_cons (pv 0) pa_nil)) (nomark _))))) (pss_one (ps_ret pe_bl)) pss_nil)
      (pss_one (ps_ret (pe_callB (k_all K rfl rfl) (by rfl) T.all (by decide +kernel) (pa_cons (pe_lc (own := [("ring", 2), ("place", 3)]) (g := gTup K 2 (gCons (gName 2) (gCons (gName 3) gNil))) (tt := tYes) rfl sc.nd (k_zip K rfl (by rfl) T.zip (pa_cons (pv 0) (pa_cons (pv 1) pa_nil))) (blkOk_by (N := N_is_tuple_in) (sc := defScope s_is_tuple_in) (by decide +kernel)) (fun _ _ _ _ _ => (k_pgT K rfl rfl (pgs_cons (pg_name (i := 2) sc.nd rfl (.inl rfl)) (pgs_cons (pg_name (i := 3) sc.nd rfl (.inl rfl)) pgs_nil)))) (fun _ _ _ _ _ => pts_nil) (fun _ _ _ _ _ => (pe_call G_is_within (hr.mono (by decide)) (by rfl) T.d_is_within.at_ T.d_is_within.fn.kp T.d_is_within.bi .nil pass0 (pa_cons (pv 3) (pa_cons pe_int (pa_cons (pe_op op_sub (pe_ix (k_ixT K rfl) (pv 2) pe_int (fun _ _ => rfl)) pe_int) pa_nil)))))) pa_nil))))), ?_⟩
    cases a with
    | tupi l =>
      have rl : RHp H y l := ra
      refine q_when e00 (et_or (et_not (et_B (er_isTT (er_var rfl rl)))) fun _ => et_test (er_ne (er_nat (er_lenT (er_var rfl rl)) rfl) (er_nat (er_lenT (er_var rfl rc)) rfl))) (fun z H1 e1 => ?_) fun z H1 e1 => ?_
      · refine s_ret (Ex.refl good0) er_bl fun v H2 e p => q v H2 (e1.trans e).toSame ?_
        rw [show v = _ from p]
        show V.bl false = V.bl (tupA ch (.tupi l))
        rw [tupA_t, decide_eq_false (by simp at z; omega)]
        rfl
      · have rc := e1.mo rc
        have rl := e1.mo rl
        refine s_ret (Ex.refl good0) (er_all (el_map (R := RP RRg RI) (fun p : KM.Rg × Int => (A0.int p.2).isW 0 (p.1.1 - 1)) (ei_zipT (er_var rfl rc) (er_var rfl rl)) (by rw [List.length_zip]; omega) fun i x p H' hx e r => tg_pair r (fun _ _ => rfl) fun x y r1 r2 => ev_c3 (a := A0.int p.2) (er_var (R := RA0) rfl r2) er_int (er_sub (er_fst (er_var rfl r1) er_int) er_int) trivial)) fun v H2 e p => q v H2 (e1.trans e).toSame ?_
        rw [show v = _ from p]
        show V.bl _ = V.bl (tupA ch (.tupi l))
        rw [tupA_t, decide_eq_true (by simp at z; omega), List.all_map]
        rfl
    | _ =>
      refine q_when e00 (et_or (b := true) (et_not (et_B (er_isT (er_var rfl ra)))) fun z => by simp [A0.isT] at z) (fun z H1 e1 => ?_) fun z H1 e1 => by simp [A0.isT] at z
      exact s_ret (Ex.refl good0) er_bl fun v H2 e p => q v H2 (e1.trans e).toSame p
def clsA (ch : List KM.Rg) : A1 → Bool
  | .tup [x0, x1] => x0.isS && tupA ch x1
  | _ => false
def sp_is_class_in : Sp := sp2 RCh RA1 (fun ch a => Cok ch ∧ ∀ l, a ≠ .a0 (.tupi l)) fun ch a v _ => v = .bl (clsA ch a)
theorem ok_is_class_in (T : Prog K mg A F) : FnOk P w K mg base CX0 4 (A 20) (F 20) ["chain", "value"] sp_is_class_in := by
  have G_is_integer := ok_is_integer (P := P) (w := w) (base := base) T
  have G_is_tuple_in := ok_is_tuple_in (P := P) (w := w) (base := base) T
  have sc := sc_is_class_in
  refine T.d_is_class_in.ok sc_is_class_in (fun vs H Q E h => ?_) (fun cdv _ outer s H vs Q E hr h => ?_)
  · obtain ⟨_, _, _, _, rfl, _⟩ := h
    rfl
  · obtain ⟨v, y, ch, a, rfl, rc, ra, ⟨ok, nt⟩, q⟩ := h
    refine ⟨_, (pss_one (ps_ret (pe_and (pe_callB (k_isi K rfl) (by rfl) T.isinstance (by decide +kernel) (pa_cons (pv 1) (pa_cons (pe_bltn (v := .ty "tuple") (by rfl) T.tuple (by decide +kernel) rfl) pa_nil))) (pe_and (pe_cmpR op_eq (pe_callB (k_len K rfl) (by rfl) T.len (by decide +kernel) (pa_cons (pv 1) pa_nil)) pe_int (nomark _)) (pe_and (pe_call G_is_integer (hr.mono (by decide)) (by rfl) T.d_is_integer.at_ T.d_is_integer.fn.kp T.d_is_integer.bi .nil pass0 (pa_cons (pe_ix (k_ixT K rfl) (pv 1) pe_int (fun _ _ => rfl)) pa_nil)) (pe_one (pe_call G_is_tuple_in (hr.mono (by decide)) (by rfl) T.d_is_tuple_in.at_ T.d_is_tuple_in.fn.kp T.d_is_tuple_in.bi .nil pass0 (pa_cons (pv 0) (pa_cons (pe_ix (k_ixT K rfl) (pv 1) pe_int (fun _ _ => rfl)) pa_nil))))))))), ?_⟩
    cases a with
    | a0 x =>
      refine s_ret e00 (er_andV (b := false) (er_isT1 (er_var rfl ra)) fun z => ?_) fun v H2 e p => q v H2 e.toSame ?_
      · cases x with
        | tupi l => exact absurd rfl (nt l)
        | _ => cases z
      · rw [show v = _ from p]
        simp [clsA]
    | tup l =>
      have rl : RT RA0 H y l := ra
      refine s_ret e00 (er_andV (b := clsA ch (.tup l)) (er_isT1 (er_var rfl ra)) fun _ => ?_) fun v H2 e p => q v H2 e.toSame (by rw [show v = _ from p]; rfl)
      by_cases h2 : l.length = 2
      · obtain ⟨x0, x1, rfl⟩ : ∃ x0 x1, l = [x0, x1] := by
          match l, h2 with
          | [x0, x1], _ => exact ⟨x0, x1, rfl⟩
        refine EvR.eq (er_andV (er_eq (er_nat (er_lenT (er_var rfl rl)) rfl) er_int) fun _ => er_andV (ev_c1 (er_ixT (j := 0) (er_var rfl rl) er_int rfl rfl) trivial) fun _ => ev_c2 (er_var rfl rc) (er_ixT (j := 1) (er_var rfl rl) er_int rfl rfl) ok) ?_
        rfl
      · refine EvR.eq (er_andV (b := false) (er_eq (er_nat (er_lenT (er_var rfl rl)) rfl) er_int) fun z => ?_) ?_
        · exfalso
          simp at z
          omega
        · unfold clsA
          split
          · rename_i e
            cases e
            simp at h2
          · simp
end KX
namespace KX
open PySem PySem.Spec PyProof.Rows L2
theorem numd_some {α : Type} {l : List α} {i n : Nat} {a : α} (h : (numd l)[i]? = some (n, a)) : n = i ∧ l[i]? = some a := by
  unfold numd at h
  obtain ⟨h1, h2⟩ := List.getElem?_zip_eq_some.mp h
  refine ⟨?_, h2⟩
  have hi := (List.getElem?_eq_some_iff.mp h2).1
  rw [List.getElem?_range hi] at h1
  exact (Option.some.inj h1).symm
theorem er_chg {K : PySem.W.Frag} {M : Ads} {D : Option Addr} {σ : L2.St} {H : Hp} {ta tb : TE} {ch : List KM.Rg} {rg : KM.Rg} {i : Nat} (a : EvR M D ta σ H RCh ch) (b : EvR M D tb σ H RN i) (h : ch[i]? = some rg) : EvR M D (tOp (rIxT K) ta tb) σ H RRg rg := er_ixT (j := i) a (er_nat b rfl) rfl h
variable {P : Program} {w : World} {K : PySem.W.Frag} {mg : Str → Option Value} {base : PySem.Heap} {A : Nat → Addr} {F : Nat → FuncData}
def sp_free_columns : Sp := sn2 RHp RHp (fun T p => T.length < 1000 ∧ p.length ≤ T.length) fun T p a H' => LAt H' a (RP RN RI) ((KM.freeCols T p).map fun c : Nat => (c, (c : Int) - KM.hgt p c))
theorem free_le (T p : List Int) : (KM.freeCols T p).length ≤ p.length + 1 := by
  unfold KM.freeCols
  refine Nat.le_trans (List.length_filter_le _ _) (Nat.le_trans (List.length_filter_le _ _) ?_)
  simp
theorem free_lt {T p : List Int} {c : Nat} (h : c ∈ KM.freeCols T p) : c < T.length := by
  have := (List.mem_filter.mp h).2
  simp at this
  exact this.1
theorem ok_free_columns (T : Prog K mg A F) : FnOk P w K mg base CX0 2 (A 30) (F 30) ["heap", "part"] sp_free_columns := by
  have G_addable_columns := ok_addable_columns (P := P) (w := w) (base := base) T
  have sc := sc_free_columns
  refine T.d_free_columns.ok sc_free_columns (fun vs H Q E h => ?_) (fun cdv _ outer s H vs Q E hr h => ?_)
  · obtain ⟨_, _, _, _, rfl, _⟩ := h
    rfl
  · obtain ⟨v, y, t, p, rfl, rt, rp, ⟨hl, hle⟩, q⟩ := h
    refine ⟨_, (pss_cons (ps_set (i := 2) sc.nd rfl (.inr rfl) (pe_tup (k_star K rfl (pv 1) (k_star K rfl (pe_op op_rep (pe_lst (pa_cons pe_int pa_nil)) (pe_op op_sub (pe_op op_add (pe_callB (k_len K rfl) (by rfl) T.len (by decide +kernel) (pa_cons (pv 0) pa_nil)) pe_int) (pe_callB (k_len K rfl) (by rfl) T.len (by decide +kernel) (pa_cons (pv 1) pa_nil)))) pa_nil))))
      (pss_cons (ps_setLc (i := 3) (own := [("column", 4)]) (g := gName 4) rfl sc.nd rfl rfl (sw_true rfl rfl rfl (by decide +kernel)) (k_piL K rfl (pe_call G_addable_columns (hr.mono (by decide)) (by rfl) T.d_addable_columns.at_ T.d_addable_columns.fn.kp T.d_addable_columns.bi .nil pass0 (pa_cons (pv 1) pa_nil))) (blkOk_by (N := N_free_columns) (sc := defScope s_free_columns) (by decide +kernel)) (fun _ _ _ _ _ => (pg_name (i := 4) sc.nd rfl (.inl rfl))) (fun _ _ _ _ _ => (pts_one (PW.pt (pw_and (pt_cmpR op_lt (pv 4) (pe_callB (k_len K rfl) (by rfl) T.len (by decide +kernel) (pa_cons (pv 0) pa_nil)) (nomark _)) (pw_and1 (pt_cmpR op_lt (pe_ix (k_ixT K rfl) (pv 2) (pv 4) (fun _ _ => rfl)) (pe_ix (k_ixT K rfl) (pv 0) (pv 4) (fun _ _ => rfl)) (nomark _))))))) (fun _ _ _ _ _ => (pv 4)))
      (pss_one (ps_ret (pe_lc (own := [("column", 4)]) (g := gName 4) (tt := tYes) rfl sc.nd (k_piL K rfl (pv 3)) (blkOk_by (N := N_free_columns) (sc := defScope s_free_columns) (by decide +kernel)) (fun _ _ _ _ _ => (pg_name (i := 4) sc.nd rfl (.inl rfl))) (fun _ _ _ _ _ => pts_nil) (fun _ _ _ _ _ => (pe_tup (pa_cons (pv 4) (pa_cons (pe_op op_sub (pv 4) (pe_ix (k_ixT K rfl) (pv 2) (pv 4) (fun _ _ => rfl))) pa_nil))))))))), ?_⟩
    refine q_set e00 (er_star2 (er_var rfl rp) (el_rep (n := t.length + 1 - p.length) (el_one (R := RI) er_int) (er_sub (er_add (er_nat (er_lenT (er_var rfl rt)) rfl) er_int) (er_nat (er_lenT (er_var rfl rp)) rfl)) (by omega) (by omega)) (by simp; omega)) fun vh H1 e1 rh => ?_
    have rt1 := e1.mo rt
    have rp1 := e1.mo rp
    refine q_new (Ex.refl good0) (el_lc (R := RN) (S := RN) (fun c => decide (c < t.length) && decide (KM.hgt p c < KM.hgt t c)) id (ei_new (en_c1 (er_var rfl rp1) (by omega))) (by
        refine Nat.lt_of_le_of_lt (List.length_filter_le _ _) ?_
        simp
        omega) fun i x c H' hx e rc => tg_name (fun _ => rfl) ⟨et_and (et_test (er_lt (er_nat (er_var rfl rc) rfl) (er_nat (er_lenT (er_var rfl (e.mo rt1))) rfl))|>.eq (by simp)) fun hc => et_test (er_lt (er_ixT (j := c) (er_var rfl (e.mo rh)) (er_nat (er_var rfl rc) rfl) rfl (rep_nil (by simp at hc; omega) (by omega))) (er_ixT (j := c) (er_var rfl (e.mo rt1)) (er_nat (er_var rfl rc) rfl) rfl (by
          have hc : c < t.length := by simpa using hc
          rw [List.getElem?_eq_getElem hc, KM.hgt_lt t hc]))), fun _ => er_var rfl rc⟩) fun a H2 hn e2 la => ?_
    have la : LAt H2 a RN (KM.freeCols t p) := by
      rw [List.map_id] at la
      exact la
    have rh2 := e2.mo rh
    have hz := free_le t p
    refine s_retN (Ex.refl good0) (el_map (R := RN) (S := RP RN RI) (fun c : Nat => (c, (c : Int) - KM.hgt p c)) (ei_lst (ev_var rfl) la (fun z => z) (fun z => nomatch z)) (by omega) fun i x c H' hx e rc => tg_name (fun _ => rfl) (er_pair (er_var rfl rc) (er_sub (er_nat (er_var rfl rc) rfl) (er_ixT (j := c) (er_var rfl (e.mo rh2)) (er_nat (er_var rfl rc) rfl) rfl (rep_nil (by
      have := free_lt (List.mem_of_getElem? hx)
      omega) (by omega)))))) fun b H3 hb e3 lb => q b H3 ((e1.trans e2).there _ hb) ((e1.trans e2).trans e3).toSame lb
def wcs (T p : List Int) (cols : List Nat) : List Int := (List.range T.length).map fun c => KM.hgt p c + if c ∈ cols then 1 else 0
theorem wcs_get {T p : List Int} {cols : List Nat} {c : Nat} (h : c < T.length) : (wcs T p cols)[c]? = some (KM.hgt p c + if c ∈ cols then 1 else 0) := by
  unfold wcs
  rw [List.getElem?_map, List.getElem?_range h]
  rfl
theorem wcs_nil {T p : List Int} (h : p.length ≤ T.length) : wcs T p [] = p ++ List.replicate (T.length - p.length) 0 := by
  refine List.ext_getElem? fun c => ?_
  by_cases hc : c < T.length
  · rw [wcs_get hc, rep_nil hc h]
    simp
  · rw [List.getElem?_eq_none_iff.mpr (by unfold wcs; simp; omega), List.getElem?_eq_none_iff.mpr (by simp; omega)]
theorem wcs_step {T p : List Int} {cols : List Nat} {c : Nat} (h : c < T.length) (n : c ∉ cols) : (wcs T p cols).set c (KM.hgt p c + 1) = wcs T p (cols ++ [c]) := by
  refine List.ext_getElem? fun d => ?_
  rw [List.getElem?_set]
  have hw : (wcs T p cols).length = T.length := by simp [wcs]
  by_cases hd : d < T.length
  · rw [wcs_get hd, wcs_get hd]
    by_cases e : c = d
    · subst e
      rw [if_pos rfl, if_pos (by omega), if_pos (by simp)]
    · rw [if_neg e]
      have : (d ∈ cols ++ [c]) ↔ d ∈ cols := by simp [Ne.symm e]
      simp only [this]
  · rw [if_neg (by omega), List.getElem?_eq_none_iff.mpr (by omega), List.getElem?_eq_none_iff.mpr (by unfold wcs; simp; omega)]
def sp_with_columns : Sp := sp3 RHp RHp (RLs RN) (fun T p cols => T.length < 1000 ∧ p.length ≤ T.length ∧ cols.Nodup ∧ ∀ c ∈ cols, c < T.length) fun T p cols v H' => RHp H' v (KM.withCols T p cols)
theorem ok_with_columns (T : Prog K mg A F) : FnOk P w K mg base CX0 1 (A 33) (F 33) ["heap", "part", "columns"] sp_with_columns := by
  have sc := sc_with_columns
  refine T.d_with_columns.ok sc_with_columns (fun vs H Q E h => ?_) (fun cdv _ outer s H vs Q E hr h => ?_)
  · obtain ⟨_, _, _, _, _, _, rfl, _⟩ := h
    rfl
  · obtain ⟨v, y, z, t, p, cols, rfl, rt, rp, ⟨cp, rfl, lc⟩, ⟨hl, hle, nd, hc⟩, q⟩ := h
    refine ⟨_, (pss_cons (ps_set (i := 3) sc.nd rfl (.inl rfl) (pe_lst (k_star K rfl (pv 1) (k_star K rfl (pe_op op_rep (pe_lst (pa_cons pe_int pa_nil)) (pe_op op_sub (pe_callB (k_len K rfl) (by rfl) T.len (by decide +kernel) (pa_cons (pv 0) pa_nil)) (pe_callB (k_len K rfl) (by rfl) T.len (by decide +kernel) (pa_cons (pv 1) pa_nil)))) pa_nil))))
      (pss_cons (ps_for PassesOwn.never rfl (k_piL K rfl (pv 2)) (pg_name (i := 4) sc.nd rfl (.inl rfl)) (pss_one (ps_augS (pv 3) (pv 4) (k_get K rfl) pe_int ip_add set_list)))
      (pss_one (ps_ret (pe_callTy (k_tupOf K rfl) (by rfl) T.tuple (by decide +kernel) (pa_cons (pe_lc (own := [("height", 5)]) (g := gName 5) rfl sc.nd (k_piL K rfl (pv 3)) (blkOk_by (N := N_with_columns) (sc := defScope s_with_columns) (by decide +kernel)) (fun _ _ _ _ _ => (pg_name (i := 5) sc.nd rfl (.inl rfl))) (fun _ _ _ _ _ => (pts_one (pt_cmpR op_gt (pv 5) pe_int (nomark _)))) (fun _ _ _ _ _ => (pv 5))) pa_nil)))))), ?_⟩
    refine q_new e00 (el_star2 (er_var rfl rp) (el_rep (n := t.length - p.length) (el_one (R := RI) er_int) (er_sub (er_nat (er_lenT (er_var rfl rt)) rfl) (er_nat (er_lenT (er_var rfl rp)) rfl)) (by omega) (by omega)) (by simp; omega)) fun f H1 hn e1 lf => ?_
    rw [← wcs_nil hle] at lf
    have g1 := good1 (lat_some lf)
    have lc1 : LAt H1 cp RN cols := e1.lat (fun z => z) (fun z => nomatch z) lc
    have hcf : cp ≠ f := fun e => lat_some lc (by rw [e]; exact hn)
    have hz : cols.length < 100000 := by
      have := List.Nodup.length_le_of_subset nd (l₂ := List.range t.length) fun c h => List.mem_range.mpr (hc c h)
      rw [List.length_range] at this
      omega
    refine q_for (Ex.refl g1) (ei_lst (ev_var rfl) lc1 hcf (fun z => nomatch z)) (fun i σ' H' => (∃ a b, σ' = [some v, some y, some (.ref cp), some (.ref f), a, b]) ∧ LAt H' f RI (wcs t p (cols.take i))) ⟨⟨none, none, rfl⟩, by simpa using lf⟩ (fun i σ' H' H'' ⟨h1, h2⟩ e => ⟨h1, e.lat (fun z => z) (fun z => nomatch z) h2⟩) ?_ ?_
    · rintro i u c σ' H' hx e r ⟨⟨a, b, rfl⟩, hlat⟩ N hN
      have hct := hc c (List.mem_of_getElem? hx)
      have hnew : c ∉ cols.take i := fun h => by
        obtain ⟨j, hj⟩ := List.mem_iff_getElem?.mp h
        rw [List.getElem?_take] at hj
        split at hj
        case isFalse => cases hj
        rename_i hlt
        have e9 := hj
        have := (List.getElem?_inj (List.getElem?_eq_some_iff.mp e9).1 nd).mp (e9.trans hx.symm)
        omega
      have hget := wcs_get (p := p) (cols := cols.take i) hct
      rw [if_neg hnew] at hget
      refine ev_aug (D := none) (M := fun a => a = f) (j := c) (x := KM.hgt p c + 0) (k := 1) (ev_var rfl) (er_nat (er_var rfl r) rfl) er_int hlat rfl hget rfl (fun z => nomatch z) e.good fun H2 e2 l2 => hN _ H2 e2 ⟨⟨_, _, rfl⟩, ?_⟩
      rw [Int.add_zero, wcs_step hct hnew] at l2
      rw [take_step hx]
      exact l2
    · rintro σ' H' e ⟨⟨a, b, rfl⟩, hlat⟩
      rw [List.take_length] at hlat
      refine s_ret (Ex.refl good0) (er_tupL (el_lc (R := RI) (S := RI) (fun x => decide (0 < x)) id (ei_lst (ev_var rfl) hlat (fun z => z) (fun z => nomatch z)) (by unfold wcs; simp; omega) fun i x b H' hx e rb => tg_name (fun _ => rfl) ⟨et_test (er_gt (er_var rfl rb) er_int), fun _ => er_var rfl rb⟩)) fun v H2 e2 p => q v H2 ((back1 e1 hn e).trans e2.toSame) ?_
      rw [List.map_id] at p
      exact p
def sp_tuple_of_filling : Sp := sp2 RCh RFil (fun ch fil => Cok ch ∧ ∃ T, KM.FillOk ch T fil ∧ T.length < 1000) fun ch fil v H' => ∃ x, RHp H' v x ∧ KM.Tup ch x ∧ ∀ T, KM.FillOk ch T fil → KM.Held T (KM.heapOf ch x)
structure FInv (ch : List KM.Rg) (fil : List (List Nat)) (x0 : Nat → Int) (c w : Nat) (x : List Int) : Prop where
  len : x.length = ch.length
  bd : ∀ (j : Nat) r p, ch[j]? = some r → x[j]? = some p → 0 ≤ p ∧ p < r.1
  done : ∀ (c' : Nat) (l : List Nat) (w' i : Nat), fil[c']? = some l → l[w']? = some i → (c' < c ∨ c' = c ∧ w' < w) → x[i]? = some (x0 i)
theorem FInv.next {ch : List KM.Rg} {fil : List (List Nat)} {x0 : Nat → Int} {c w i : Nat} {l : List Nat} {x : List Int} {rg : KM.Rg} {d : Int} (ok : Cok ch) (h : FInv ch fil x0 c w x) (hl : fil[c]? = some l) (hw : l[w]? = some i) (hr : ch[i]? = some rg) (hv : x0 i = d * rg.2 % rg.1) : FInv ch fil x0 c (w + 1) (x.set i (d * rg.2 % rg.1)) := by
  have hi : i < x.length := by rw [h.len]; exact (List.getElem?_eq_some_iff.mp hr).1
  refine ⟨by rw [List.length_set]; exact h.len, fun j r p h1 h2 => ?_, fun c' l' w' i' h1 h2 h3 => ?_⟩
  · rw [List.getElem?_set] at h2
    by_cases e : i = j
    · subst e
      rw [if_pos rfl, if_pos hi] at h2
      cases h2
      rw [hr] at h1
      cases h1
      have := (ok.rg rg (List.mem_of_getElem? hr)).two
      exact ⟨Int.emod_nonneg _ (by omega), Int.emod_lt_of_pos _ (by omega)⟩
    · rw [if_neg e] at h2
      exact h.bd j r p h1 h2
  · rw [List.getElem?_set]
    by_cases e : i = i'
    · subst e
      rw [if_pos rfl, if_pos hi, hv]
    · rw [if_neg e]
      refine h.done c' l' w' i' h1 h2 ?_
      rcases h3 with h3 | ⟨h3, h4⟩
      · exact .inl h3
      · refine .inr ⟨h3, ?_⟩
        by_cases z : w' = w
        · subst h3 z
          rw [hl] at h1
          cases h1
          rw [hw] at h2
          cases h2
          exact absurd rfl e
        · omega
theorem FInv.row {ch : List KM.Rg} {fil : List (List Nat)} {x0 : Nat → Int} {c : Nat} {l : List Nat} {x : List Int} (h : FInv ch fil x0 c l.length x) (hl : fil[c]? = some l) : FInv ch fil x0 (c + 1) 0 x :=
  ⟨h.len, h.bd, fun c' l' w' i h1 h2 h3 => h.done c' l' w' i h1 h2 (by
    by_cases z : c' = c
    · subst z
      rw [hl] at h1
      cases h1
      exact .inr ⟨rfl, (List.getElem?_eq_some_iff.mp h2).1⟩
    · exact .inl (by omega))⟩
theorem ok_tuple_of_filling (T : Prog K mg A F) : FnOk P w K mg base CX0 1 (A 44) (F 44) ["chain", "filling"] sp_tuple_of_filling := by
  have sc := sc_tuple_of_filling
  refine T.d_tuple_of_filling.ok sc_tuple_of_filling (fun vs H Q E h => ?_) (fun cdv _ outer s H vs Q E hr h => ?_)
  · obtain ⟨_, _, _, _, rfl, _⟩ := h
    rfl
  · obtain ⟨v, y, ch, fil, rfl, rc, rf, ⟨ok, T0, fo, ht⟩, q⟩ := h
    have h12 := ok.most
    obtain ⟨x0, hx0⟩ := fo.some_
    refine ⟨_, (pss_cons (ps_set (i := 2) sc.nd rfl (.inl rfl) (pe_op op_rep (pe_lst (pa_cons pe_int pa_nil)) (pe_callB (k_len K rfl) (by rfl) T.len (by decide +kernel) (pa_cons (pv 0) pa_nil))))
      (pss_cons (ps_for PassesOwn.never rfl (k_enum K rfl (by rfl) T.enumerate (pa_cons (pv 1) pa_nil)) (k_pgT K rfl rfl (pgs_cons (pg_name (i := 3) sc.nd rfl (.inl rfl)) (pgs_cons (pg_name (i := 4) sc.nd rfl (.inl rfl)) pgs_nil))) (pss_one (ps_for PassesOwn.never rfl (k_enum K rfl (by rfl) T.enumerate (pa_cons (pv 4) pa_nil)) (k_pgT K rfl rfl (pgs_cons (pg_name (i := 5) sc.nd rfl (.inl rfl)) (pgs_cons (pg_name (i := 6) sc.nd rfl (.inl rfl)) pgs_nil))) (pss_one (ps_asg (pe_op op_mod (pe_op op_mul (pe_op op_sub (pv 3) (pv 5)) (pe_ix (k_ixT K rfl) (pe_ix (k_ixT K rfl) (pv 0) (pv 6) (fun _ _ => rfl)) pe_int (fun _ _ => rfl))) (pe_ix (k_ixT K rfl) (pe_ix (k_ixT K rfl) (pv 0) (pv 6) (fun _ _ => rfl)) pe_int (fun _ _ => rfl))) (pg_sub (pv 2) (pv 6) set_list))))))
      (pss_one (ps_ret (pe_callTy (k_tupOf K rfl) (by rfl) T.tuple (by decide +kernel) (pa_cons (pv 2) pa_nil)))))), ?_⟩
    refine q_new e00 (el_rep (n := ch.length) (el_one (R := RI) er_int) (er_nat (er_lenT (er_var rfl rc)) rfl) rfl (by omega)) fun f H1 hn e1 lf => ?_
    have g1 := good1 (lat_some lf)
    have rc := e1.mo rc
    have rf := e1.mo rf
    refine q_for (Ex.refl g1) (ei_enumT (er_var rfl rf)) (fun i σ' H' => ∃ a b c d x, σ' = [some v, some y, some (.ref f), a, b, c, d] ∧ LAt H' f RI x ∧ FInv ch fil x0 i 0 x) ⟨none, none, none, none, _, rfl, lf, ⟨by simp, fun j r p h1 h2 => ?_, fun c' l w' i h1 h2 h3 => ?_⟩⟩ (fun i σ' H' H'' ⟨a, b, c, d, x, h1, h2, h3⟩ e => ⟨a, b, c, d, x, h1, e.lat (fun z => z) (fun z => nomatch z) h2, h3⟩) ?_ ?_
    · rw [List.getElem?_replicate] at h2
      split at h2
      · cases h2
        have := (ok.rg r (List.mem_of_getElem? h1)).two
        omega
      · cases h2
    · omega
    · rintro i u cl σ' H' hx e r ⟨a, b, c, d, x, rfl, hlat, hinv⟩ N hN
      obtain ⟨ei, hfl⟩ := numd_some (show _ = some (cl.1, cl.2) from hx)
      refine g_pair r fun vc vl rcol rlet => ?_
      have rc := e.mo rc
      refine f_for (Ex.refl e.good) (ei_enumT (er_var rfl rlet)) (fun j σ' H'' => ∃ a b x, σ' = [some v, some y, some (.ref f), some vc, some vl, a, b] ∧ LAt H'' f RI x ∧ FInv ch fil x0 i j x) ⟨_, _, x, rfl, hlat, hinv⟩ (fun i σ' H' H'' ⟨a, b, x, h1, h2, h3⟩ e => ⟨a, b, x, h1, e.lat (fun z => z) (fun z => nomatch z) h2, h3⟩) ?_ ?_
      · rintro j u2 ri σ2 H2 hx2 e2 r2 ⟨a, b, x, rfl, hlat, hinv⟩ N2 hN2
        obtain ⟨ej, hil⟩ := numd_some (show _ = some (ri.1, ri.2) from hx2)
        obtain ⟨rg, hrg, hval⟩ := hx0 i cl.2 j ri.2 hfl hil
        have hok := ok.ok rg (List.mem_of_getElem? hrg)
        have h1 := hok.ok.two
        have h2 := hok.ok.s1
        have h3 := hok.ok.s2
        have h4 := hok.le
        refine g_pair r2 fun vr vi rrow rind => ?_
        have rc2 := e2.mo rc
        have rcol2 := e2.mo rcol
        refine ev_put (D := none) (M := fun a => a = f) (a := ((i : Int) - (j : Int)) * rg.2 % rg.1) (j := ri.2) (er_mod (er_mul (er_sub (er_nat (er_var rfl rcol2) (by rw [ei])) (er_nat (er_var rfl rrow) (by rw [ej]))) (er_snd (er_chg (er_var rfl rc2) (er_var rfl rind) hrg) er_int) (.inr (by omega))) (er_fst (er_chg (er_var rfl rc2) (er_var rfl rind) hrg) er_int) (by omega)) (ev_var rfl) (er_nat (er_var rfl rind) rfl) hlat (by rw [hinv.len]; exact (List.getElem?_eq_some_iff.mp hrg).1) rfl rfl (fun z => nomatch z) e2.good fun H3 e3 l3 => hN2 _ H3 e3 ⟨_, _, _, rfl, l3, hinv.next ok hfl hil hrg hval⟩
      · rintro σ2 H2 e2 ⟨a, b, x, rfl, hlat, hinv⟩
        refine hN _ H2 e2 ⟨_, _, _, _, x, rfl, hlat, ?_⟩
        refine FInv.row (l := cl.2) ?_ hfl
        have : (numd cl.2).length = cl.2.length := by simp [numd]
        rw [this] at hinv
        exact hinv
    · rintro σ' H' e ⟨a, b, c, d, x, rfl, hlat, hinv⟩
      have : (numd fil).length = fil.length := by simp [numd]
      rw [this] at hinv
      refine s_ret (Ex.refl good0) (er_tupA (ev_var rfl) hlat (fun z => z) (fun z => nomatch z)) fun v H2 e2 p => q v H2 ((back1 e1 hn e).trans e2.toSame) ⟨x, p, KM.tup_iff.mpr ⟨hinv.len.symm, hinv.bd⟩, fun T ft => ft.held x hinv.len fun c l w i h1 h2 => ⟨x0 i, hinv.done c l w i h1 h2 (.inl (List.getElem?_eq_some_iff.mp h1).1), hx0 c l w i h1 h2⟩⟩
end KX
namespace KX
open PySem PySem.Spec PyProof.Rows L2
section
variable {K : PySem.W.Frag} {M : Ads} {σ : L2.St} {H H0 : Hp} {ta tb tc te : TE} {α β : Type} {R : Rel α}
/-- a comprehension, with a promise about the heap -/
theorem en_lcP {wi : TI} {g : TG} {vs : List Nat} {xs : List α} (G : Addr → Nat → List V → Hp → Prop) (hI : EvI M none wi σ H xs R) (hz : xs.length < 100000) (g0 : ∀ p H', Ex M none H H' → G p 0 [] H')
    (hm : ∀ p i ys H' H'', G p i ys H' → (∀ a o, a ≠ p → H' a = some o → H'' a = some o) → G p i ys H'') (hlen : ∀ p i ys H', G p i ys H' → ys.length ≤ i)
    (hs : ∀ (i : Nat) x a p ys H', xs[i]? = some a → Ex M none H H' → R H' x a → H' p ≠ none → G p i ys H' → ∃ σ2, Tgt g vs σ H' x σ2 ∧ Ev M none te σ2 H' fun y H'' => G p (i + 1) (ys ++ [y]) H'') :
    EvN M none (tLc wi g tYes te vs) σ H fun p H' => ∃ ys, H' p = some (.lst ys) ∧ G p xs.length ys H' := fun H1 e Q q =>
  hI H1 e _ fun J H2 e2 w p hp => by
    have e12 : Ex M none H H2 := e.then e2
    have e120 : Ex M none H (upd H2 p (.lst [])) := e12.new hp
    refine ⟨fun i m H' => m = xs.length - i ∧ i ≤ xs.length ∧ Ex M none H2 H' ∧ Ex M0 none H2 H' ∧ ∃ ys, H' p = some (.lst ys) ∧ G p i ys H', ⟨xs.length, by omega, Nat.zero_le _, (Ex.refl e12.good).new hp, (Ex.refl e12.good.m0).new hp, [], upd_same, g0 p _ e120⟩, ?_⟩
    rintro i m H' ⟨rfl, hi, e3, e30, ys, hl, gl⟩
    by_cases hlt : i < xs.length
    · refine .inr ⟨w.goes i H' hlt e3, fun H'' => Ex M none H2 H'' ∧ Ex M0 none H2 H'' ∧ ∃ ys, H'' p = some (.lst ys) ∧ G p (i + 1) ys H'', fun H'' ⟨a1, a2, a3⟩ => ⟨xs.length - (i + 1), by omega, rfl, hlt, a1, a2, a3⟩, fun x H4 hy => ?_⟩
      obtain ⟨e4, a, hxa, r⟩ := w.yields i H' x H4 hlt e3 hy
      have e5 : Ex M none H H4 := (e12.trans e3).then e4
      have k4 := e4.keep p _ (fun z => z) (fun z => nomatch z) hl
      have g4 := hm p i ys H' H4 gl fun a o _ h => e4.keep a o (fun z => z) (fun z => nomatch z) h
      obtain ⟨σ2, tg, hyes⟩ := hs i x a p ys H4 hxa e5 r (by rw [k4]; exact fun z => nomatch z) g4
      refine tg.run _ ⟨tg.back, ?_⟩
      show te σ2 H4 _
      refine hyes H4 (Ex.refl e5.good) _ fun y H6 e7 gc => ?_
      have k6 := e7.keep p _ (fun z => z) (fun z => nomatch z) k4
      have e8 : Ex M0 none H2 H6 := (e30.trans e4).trans e7
      have e9 : Ex M none H2 H6 := (e3.then e4).then e7
      have tk : Sta H6 (upd H6 p (.lst (ys ++ [y]))) := Sta.put k6 rfl (fun z => nomatch z)
      have key : ∀ {N : Ads}, Ex N none H2 H6 → Ex N none H2 (upd H6 p (.lst (ys ++ [y]))) := fun {N} eg => by
        refine ⟨fun c o h1 h2 h3 => ?_, eg.sta.trans tk, fun c h3 => ?_, ⟨fun c hc => ?_, fun c hc => nomatch hc⟩⟩
        · rw [upd_ne (ne_of_none h3 hp)]; exact eg.keep c o h1 h2 h3
        · by_cases z : c = p
          · subst z; exact hp
          · rw [upd_ne z] at h3; exact eg.there c h3
        · by_cases z : c = p
          · subst z; rw [upd_same]; exact fun w => nomatch w
          · rw [upd_ne z]; exact eg.good.live c hc
      refine ⟨ys, k6, sz_lt (by have := hlen _ _ _ _ gl; omega), key e9, key e8, ys ++ [y], upd_same, hm _ _ _ _ _ gc fun a o h1 h2 => by rw [upd_ne h1]; exact h2⟩
    · have ei : i = xs.length := by omega
      subst ei
      exact .inl ⟨w.stops H' e3, q p H' (e2.there p hp) (e2.trans e30) ⟨ys, hl, gl⟩⟩
theorem Ex.wide {M N : Ads} {D : Option Addr} {H H' : Hp} (e : Ex N D H H') (g : Good M D H) (h : ∀ a, N a → M a) : Ex M D H H' :=
  ⟨fun a o hm hd q => e.keep a o (fun z => hm (h a z)) hd q, e.sta, e.there, ⟨fun a hm z => g.live a hm (e.there a z), e.good.dice⟩⟩
/-- an address among those told -/
def RAd (qs : List Addr) : Rel Nat := fun _ v c => ∃ q, qs[c]? = some q ∧ v = .ref q
instance {qs : List Addr} : Mo (RAd qs) := ⟨fun _ h => h⟩
theorem rad_paired {H : Hp} (qs : List Addr) : Paired (RAd qs H) (qs.map V.ref) (List.range qs.length) := by
  have : ∀ (l pre : List Addr), pre ++ l = qs → Paired (RAd qs H) (l.map V.ref) ((List.range l.length).map (pre.length + ·)) := fun l => by
    induction l with
    | nil => exact fun _ _ => .nil
    | cons a l ih =>
      intro pre h
      rw [List.map_cons, List.length_cons, List.range_succ_eq_map, List.map_cons]
      refine .cons ⟨a, by rw [← h]; simp, rfl⟩ ?_
      have := ih (pre ++ [a]) (by rw [← h]; simp)
      rw [List.map_map]
      rw [List.length_append, List.length_singleton] at this
      have e9 : ((fun x => pre.length + x) ∘ Nat.succ) = fun x => pre.length + 1 + x := by
        funext x
        show pre.length + (x + 1) = _
        omega
      rw [e9]
      exact this
  have := this qs [] rfl
  simpa using this
end
theorem er_adv {K : PySem.W.Frag} {M : Ads} {D : Option Addr} {σ : L2.St} {H : Hp} {ta tb : TE} {qs : List Addr} {f : Addr} {c : Nat} {q : Addr} (ha : Ev M D ta σ H fun v _ => v = .ref f) (hb : EvR M D tb σ H RN c) (hf : H f = some (.lst (qs.map V.ref))) (hm : ¬ M f) (hd : D ≠ some f) (hq : qs[c]? = some q) : Ev M D (tOp (rIxL K) ta tb) σ H fun v _ => v = .ref q :=
  (er_ixL (R := RAd qs) (j := c) (a := c) ha (er_nat hb rfl) (l := List.range qs.length) ⟨_, hf, rad_paired qs⟩ hm hd rfl (List.getElem?_range (List.getElem?_eq_some_iff.mp hq).1)).imp fun v H' ⟨q', h1, h2⟩ => by
    rw [hq] at h1
    cases h1
    exact h2
variable {P : Program} {w : World} {K : PySem.W.Frag} {mg : Str → Option Value} {base : PySem.Heap} {A : Nat → Addr} {F : Nat → FuncData}
def sp_letters_put : Sp := sp2 RHp RSt (fun T st => T.length < 1000 ∧ st.length < 1000 ∧ ∀ s ∈ st, s.2.Nodup ∧ ∀ c ∈ s.2, c < T.length) fun T st v H' => RFil H' v (KM.lettersPut T st)
theorem col_le (st : KM.Steps) (c : Nat) : (KM.col st c).length ≤ st.length := by
  unfold KM.col
  rw [List.length_map]
  exact List.length_filter_le _ _
/-- the lists at their places -/
def Cols (H : Hp) (qs : List Addr) (l : Nat → List Nat) : Prop := ∀ (c : Nat) q, qs[c]? = some q → LAt H q RN (l c)
theorem ok_letters_put (T : Prog K mg A F) : FnOk P w K mg base CX0 1 (A 35) (F 35) ["heap", "steps"] sp_letters_put := by
  have sc := sc_letters_put
  refine T.d_letters_put.ok sc_letters_put (fun vs H Q E h => ?_) (fun cdv _ outer s H vs Q E hr h => ?_)
  · obtain ⟨_, _, _, _, rfl, _⟩ := h
    rfl
  · obtain ⟨v, y, t, st, rfl, rt, rs, ⟨hl, hsl, hst⟩, q⟩ := h
    refine ⟨_, (pss_cons (ps_setLc (i := 2) (own := [("height", 6)]) (g := gName 6) (tt := tYes) rfl sc.nd rfl rfl (sw_true rfl rfl rfl (by decide +kernel)) (k_piT K rfl (pv 0)) (blkOk_by (N := N_letters_put) (sc := defScope s_letters_put) (by decide +kernel)) (fun _ _ _ _ _ => (pg_name (i := 6) sc.nd rfl (.inl rfl))) (fun _ _ _ _ _ => pts_nil) (fun _ _ _ _ _ => (pe_lst pa_nil)))
      (pss_cons (ps_for PassesOwn.never rfl (k_piT K rfl (pv 1)) (k_pgT K rfl rfl (pgs_cons (pg_name (i := 3) sc.nd rfl (.inl rfl)) (pgs_cons (pg_name (i := 4) sc.nd rfl (.inl rfl)) pgs_nil))) (pss_one (ps_for PassesOwn.never rfl (k_piT K rfl (pv 4)) (pg_name (i := 5) sc.nd rfl (.inl rfl)) (pss_one (ps_expr (pe_bm PySem.F.plainAttrs_list PySem.F.slot_list_append PySem.F.type_list_append mt_append (pe_ix (k_ixL K rfl) (pv 2) (pv 5) (fun _ _ => rfl)) (pa_cons (pv 3) pa_nil)))))))
      (pss_one (ps_ret (pe_callTy (k_tupOf K rfl) (by rfl) T.tuple (by decide +kernel) (pa_cons (pe_lc (own := [("column", 5)]) (g := gName 5) (tt := tYes) rfl sc.nd (k_piL K rfl (pv 2)) (blkOk_by (N := N_letters_put) (sc := defScope s_letters_put) (by decide +kernel)) (fun _ _ _ _ _ => (pg_name (i := 5) sc.nd rfl (.inl rfl))) (fun _ _ _ _ _ => pts_nil) (fun _ _ _ _ _ => (pe_callTy (k_tupOf K rfl) (by rfl) T.tuple (by decide +kernel) (pa_cons (pv 5) pa_nil)))) pa_nil)))))), ?_⟩
    refine q_new e00 (en_lcP (R := RI) (fun p i ys H' => ∃ qs : List Addr, ys = qs.map V.ref ∧ qs.length = i ∧ qs.Nodup ∧ p ∉ qs ∧ ∀ q ∈ qs, H' q = some (.lst []) ∧ H q = none) (ei_tup (er_var rfl rt)) (by omega) (fun p H' e => ⟨[], rfl, rfl, List.nodup_nil, by simp, fun _ h => nomatch h⟩) (fun p i ys H' H'' ⟨qs, h1, h2, h3, h4, h5⟩ k => ⟨qs, h1, h2, h3, h4, fun q hq => ⟨k q _ (fun e => h4 (by rw [← e]; exact hq)) (h5 q hq).1, (h5 q hq).2⟩⟩) (fun p i ys H' ⟨qs, h1, h2, _⟩ => by rw [h1, List.length_map]; omega) fun i x a p ys H' hx e r hp ⟨qs, h1, h2, h3, h4, h5⟩ => tg_name (fun _ => rfl) fun H1 e1 Q q => el_nil (R := RN) H1 e1 _ fun b H2 hb e2 lb => q _ H2 e2 ?_) fun f H1 hn e1 ⟨ys, hf, qs, ey, hql, hnd, hfq, hq⟩ => ?_
    · obtain ⟨zs, k1, k2⟩ := lb
      cases k2
      have hbq : b ∉ qs := fun z => by
        have := (h5 b z).1
        rw [e1.there b hb] at this
        cases this
      refine ⟨qs ++ [b], by rw [h1, List.map_append]; rfl, by rw [List.length_append, h2]; rfl, ?_, ?_, fun c hc => ?_⟩
      · rw [List.nodup_append]
        exact ⟨h3, by simp, fun x hx y hy e => by
          rw [List.mem_singleton] at hy
          exact hbq (by rw [← hy, ← e]; exact hx)⟩
      · rw [List.mem_append, List.mem_singleton]
        rintro (z | z)
        · exact h4 z
        · exact hp (by rw [z]; exact e1.there b hb)
      · rcases List.mem_append.mp hc with z | z
        · exact ⟨e2.keep c _ (fun z => z) (fun z => nomatch z) (e1.keep c _ (fun z => z) (fun z => nomatch z) (h5 c z).1), (h5 c z).2⟩
        · rw [List.mem_singleton.mp z]
          exact ⟨k1, e.there b (e1.there b hb)⟩
    · subst ey
      have rs := e1.mo rs
      have g1 : Good (fun a => a ∈ qs) none H1 := ⟨fun a ha z => (by rw [(hq a ha).1] at z; cases z), fun _ z => nomatch z⟩
      have c0 : Cols H1 qs (KM.col ([] : KM.Steps)) := fun c q hc => ⟨[], (hq q (List.mem_of_getElem? hc)).1, .nil⟩
      have cmo : ∀ {H' H'' : Hp} {l : Nat → List Nat}, Ex M0 none H' H'' → Cols H' qs l → Cols H'' qs l := fun e h c q hc => e.lat (fun z => z) (fun z => nomatch z) (h c q hc)
      refine q_for (Ex.refl g1) (ei_tup (er_var rfl rs)) (fun i σ' H' => (∃ a b c d, σ' = [some v, some y, some (.ref f), a, b, c, d]) ∧ Cols H' qs (KM.col (st.take i))) ⟨⟨none, none, none, none, rfl⟩, c0⟩ (fun i σ' H' H'' ⟨h1, h2⟩ e => ⟨h1, cmo e h2⟩) ?_ ?_
      · rintro i u s σ' H' hx e r ⟨⟨a, b, c, d, rfl⟩, hc⟩ N hN
        obtain ⟨sn, sl⟩ := hst s (List.mem_of_getElem? hx)
        have hin : i < st.length := (List.getElem?_eq_some_iff.mp hx).1
        have hf' := e.keep f _ hfq (fun z => nomatch z) hf
        refine g_pair r fun vl vc rl rc => ?_
        have hnz : s.2.length < 2000 := by
          have := List.Nodup.length_le_of_subset sn (l₂ := List.range t.length) fun c h => List.mem_range.mpr (sl c h)
          rw [List.length_range] at this
          omega
        refine f_for (Ex.refl e.good) (ei_tup (er_var rfl rc)) (fun j σ' H'' => (∃ a b, σ' = [some v, some y, some (.ref f), some vl, some vc, a, b]) ∧ Cols H'' qs fun c => KM.col (st.take i) c ++ if c ∈ s.2.take j then [s.1] else []) ⟨⟨_, _, rfl⟩, by simpa using hc⟩ (fun i σ' H' H'' ⟨h1, h2⟩ e => ⟨h1, cmo e h2⟩) ?_ ?_
        · rintro j u2 cn σ2 H2 hx2 e2 r2 ⟨⟨a, b, rfl⟩, hc2⟩ N2 hN2
          have hct := sl cn (List.mem_of_getElem? hx2)
          obtain ⟨q0, hq0⟩ : ∃ q0, qs[cn]? = some q0 := ⟨_, List.getElem?_eq_getElem (by omega)⟩
          have hnew : cn ∉ s.2.take j := fun h => by
            obtain ⟨j', hj⟩ := List.mem_iff_getElem?.mp h
            rw [List.getElem?_take] at hj
            split at hj
            case isFalse => cases hj
            rename_i hlt
            have := (List.getElem?_inj (List.getElem?_eq_some_iff.mp hj).1 sn).mp (hj.trans hx2.symm)
            omega
          have l0 := hc2 cn q0 hq0
          simp only [if_neg hnew, List.append_nil] at l0
          refine ev_app (D := none) (M := fun a => a = q0) (l := KM.col (st.take i) cn) (a := s.1) (er_adv (q := q0) (ev_var rfl) (er_var rfl r2) (e2.keep f _ hfq (fun z => nomatch z) hf') (fun z => z) (fun z => nomatch z) hq0) l0 (by
            have := col_le (st.take i) cn
            rw [List.length_take] at this
            omega) rfl (fun z => nomatch z) (good1 (e2.good.live q0 (List.mem_of_getElem? hq0))) (er_var rfl (e2.mo rl)) fun H3 e3 l3 => hN2 _ H3 (e3.wide e2.good fun a h => by rw [h]; exact List.mem_of_getElem? hq0) ⟨⟨_, _, rfl⟩, fun c q hcq => ?_⟩
          rw [take_step hx2]
          by_cases z : c = cn
          · subst z
            rw [hq0] at hcq
            cases hcq
            have ic : c ∈ s.2.take j ++ [c] := by simp
            simp only [ic, if_true]
            exact l3
          · have hqq : q ≠ q0 := fun e => z ((List.getElem?_inj (List.getElem?_eq_some_iff.mp hcq).1 hnd).mp (by rw [hcq, hq0, e]))
            have ic : (c ∈ s.2.take j ++ [cn]) ↔ c ∈ s.2.take j := by simp [z]
            simp only [ic]
            exact e3.lat hqq (fun z => nomatch z) (hc2 c q hcq)
        · rintro σ2 H2 e2 ⟨⟨a, b, rfl⟩, hc2⟩
          rw [List.take_length] at hc2
          refine hN _ H2 e2 ⟨⟨_, _, _, _, rfl⟩, fun c q hcq => ?_⟩
          rw [take_step hx, KM.col_snoc]
          exact hc2 c q hcq
      · rintro σ' H' e ⟨⟨a, b, c, d, rfl⟩, hc⟩
        rw [List.take_length] at hc
        have hf' := e.keep f _ hfq (fun z => nomatch z) hf
        have hsame : Same H H' := (e1.drop e (fun a h => .inr (hq a h).2) (fun _ h => h.elim)).toSame
        refine s_ret (Ex.refl good0) (er_tupL (el_map (R := RAd qs) (S := RT RN) (KM.col st) (ei_lst (xs := List.range qs.length) (ev_var rfl) ⟨_, hf', rad_paired qs⟩ (fun z => z) (fun z => nomatch z)) (by simp; omega) fun i x c H'' hx e2 r => r.elim fun q0 h => h.elim fun h1 h2 => tg_name (fun _ => rfl) (er_tupA (p := q0) ((ev_var rfl).imp fun v H p => p.trans h2) (e2.lat (fun z => z) (fun z => nomatch z) (hc c q0 h1)) (fun z => z) (fun z => nomatch z)))) fun v H2 e2 p => q v H2 (hsame.trans e2.toSame) ?_
        rw [hql] at p
        exact p
end KX
namespace KX
open PySem PySem.Spec PyProof.Rows L2
section
variable {K : PySem.W.Frag} {M : Ads} {D : Option Addr} {σ : L2.St} {H H0 Hb H' : Hp} {ta tb tc te : TE} {α β : Type} {R : Rel α} {B : Ends} {tz tu : TS} {q : Addr}
/-- a loop: what it makes counts from the loop's start -/
theorem f_forB {wi : TI} {g : TG} {xs : List α} {Bk Nx : L2.St → Hp → Prop} {Rt : VK} {Ct0 : L2.St → Hp → Prop} (e : Ex M D H0 H) (hI : EvI M D wi σ H0 xs R) (Pv : Hp → Nat → L2.St → Hp → Prop) (h0 : ∀ Hb, Ex M0 D H Hb → Pv Hb 0 σ Hb) (hm : ∀ Hb i σ' H' H'', Pv Hb i σ' H' → Ex M0 D H' H'' → Pv Hb i σ' H'')
    (hs : ∀ Hb, Ex M0 D H Hb → ∀ (i : Nat) x a σ' H', xs[i]? = some a → Ex M D Hb H' → R H' x a → Pv Hb i σ' H' → ∀ N : L2.St → Hp → Prop, (∀ σ3 H3, Ex M D Hb H3 → Pv Hb (i + 1) σ3 H3 → N σ3 H3) → g x σ' H' fun σ2 H2 => tu { nx := N, rt := Rt, ct := N, bk := Nx } σ2 H2)
    (hd : ∀ Hb, Ex M0 D H Hb → ∀ σ' H', Ex M D Hb H' → Pv Hb xs.length σ' H' → Nx σ' H') : tFor wi g tu { nx := Nx, rt := Rt, bk := Bk, ct := Ct0 } σ H := hI H e _ fun J H2 e2 w => by
  have e12 : Ex M D H H2 := (Ex.refl e.good).then e2
  refine ⟨fun i m σ' H' => m = xs.length - i ∧ i ≤ xs.length ∧ Ex M D H2 H' ∧ Pv H2 i σ' H', ⟨xs.length, by omega, Nat.zero_le _, Ex.refl e12.good, h0 H2 e2⟩, ?_⟩
  rintro i m σ' H' ⟨rfl, hi, e3, pv⟩
  by_cases hlt : i < xs.length
  · refine .inr ⟨w.goes i H' hlt e3, fun σ3 H3 => Ex M D H2 H3 ∧ Pv H2 (i + 1) σ3 H3, fun σ3 H3 ⟨a1, a2⟩ => ⟨xs.length - (i + 1), by omega, rfl, hlt, a1, a2⟩, fun x H4 hy => ?_⟩
    obtain ⟨e4, a, hxa, r⟩ := w.yields i H' x H4 hlt e3 hy
    exact hs H2 e2 i x a σ' H4 hxa (e3.then e4) r (hm _ _ _ _ _ pv e4) _ fun σ3 H3 h1 h2 => ⟨h1, h2⟩
  · have ei : i = xs.length := by omega
    subst ei
    exact .inl ⟨w.stops H' e3, hd H2 e2 _ _ e3 pv⟩
theorem q_forB {wi : TI} {g : TG} {xs : List α} (e : Ex M D H0 H) (hI : EvI M D wi σ H0 xs R) (Pv : Hp → Nat → L2.St → Hp → Prop) (h0 : ∀ Hb, Ex M0 D H Hb → Pv Hb 0 σ Hb) (hm : ∀ Hb i σ' H' H'', Pv Hb i σ' H' → Ex M0 D H' H'' → Pv Hb i σ' H'')
    (hs : ∀ Hb, Ex M0 D H Hb → ∀ (i : Nat) x a σ' H', xs[i]? = some a → Ex M D Hb H' → R H' x a → Pv Hb i σ' H' → ∀ N : L2.St → Hp → Prop, (∀ σ3 H3, Ex M D Hb H3 → Pv Hb (i + 1) σ3 H3 → N σ3 H3) → g x σ' H' fun σ2 H2 => tu { nx := N, rt := B.rt, ct := N, bk := tz B } σ2 H2)
    (hd : ∀ Hb, Ex M0 D H Hb → ∀ σ' H', Ex M D Hb H' → Pv Hb xs.length σ' H' → tz B σ' H') : tSeq (tFor wi g tu) tz B σ H := f_forB (Bk := B.bk) (Ct0 := B.ct) e hI Pv h0 hm hs hd
/-- an object that the loop made is written -/
theorem Ex.putF {o u : HO} (e : Ex M none Hb H') (hq : Hb q = none) (hu : H' q = some u) (k : kd o = kd u) (nt : kd u ≠ 0) : Ex M none Hb (upd H' q o) := by
  refine ⟨fun c v h1 h2 h3 => ?_, e.sta.trans (Sta.put hu k nt), fun c h3 => ?_, ⟨fun c hc => ?_, fun c hc => nomatch hc⟩⟩
  · rw [upd_ne (ne_of_none h3 hq)]; exact e.keep c v h1 h2 h3
  · by_cases z : c = q
    · subst z; exact hq
    · rw [upd_ne z] at h3; exact e.there c h3
  · by_cases z : c = q
    · subst z; rw [upd_same]; exact fun w => nomatch w
    · rw [upd_ne z]; exact e.good.live c hc
theorem ap_core {l : List α} {a : α} [Mo R] (hq : LAt H q R l) (hz : l.length < 100000) (hd : D ≠ some q) (g : Good M0 D H) (h : EvR M0 D te σ H R a) (k : ∀ H3, Ex M0 D H H3 → ∀ xs y, H3 q = some (.lst xs) → Paired (R H3) xs l → R H3 y a → B.nx σ (upd H3 q (.lst (xs ++ [y])))) :
    tyV K "list" (.ref q) H ∧ tCons te tNil σ H fun xs H2 => rAppend (.ref q) xs H2 fun _ H' => B.nx σ H' := by
  obtain ⟨xs, h1, h2⟩ := hq
  refine ⟨.inl ⟨rfl, xs, SqL.of h1⟩, h H (Ex.refl g) _ fun y H2 e2 py => ?_⟩
  obtain ⟨xs2, h3, h4⟩ := e2.lat (fun z => z) hd ⟨xs, h1, h2⟩
  exact ⟨q, xs2, y, rfl, rfl, h3, sz_lt (by rw [Paired.length h4]; exact hz), k H2 e2 xs2 y h3 h4 py⟩
theorem en_dnewK : EvN M D tDNewK σ H fun p H' => H' p = some (.dK []) := fun H1 e Q q => fun p hp => q p _ hp ((Ex.refl e.good.m0).new hp) upd_same
abbrev rSortDI (Kq : Unit) : List V → Hp → VK → Prop := fun xs H Q => ∃ (a : Addr) (kvs : List (Key × V)) (ks : List Int), xs = [.ref a] ∧ Rd H a (.dK kvs) ∧ kvs.map (·.1) = ks.map Sum.inl ∧ ks.length < 64 ∧
    ∀ (ys : List Int) (p : Addr), ys.Perm ks → ys.Pairwise (· ≤ ·) → H p = none → Q (.ref p) (upd H p (.lst (ys.map V.int)))
def srt (ks : List Int) : List Int := ks.mergeSort fun a b => decide (a ≤ b)
theorem srt_perm (ks : List Int) : (srt ks).Perm ks := List.mergeSort_perm _ _
theorem srt_eq {ks ys : List Int} (h : ys.Perm ks) (o : ys.Pairwise (· ≤ ·)) : ys = srt ks := by
  have hs : (srt ks).Pairwise fun a b => decide (a ≤ b) = true := List.pairwise_mergeSort (fun a b c h1 h2 => by simp at *; omega) (fun a b => by simp; omega) ks
  refine List.Perm.eq_of_pairwise (le := fun a b : Int => a ≤ b) (fun a b _ _ h1 h2 => by omega) o (hs.imp fun h => by simpa using h) (h.trans (srt_perm ks).symm)
theorem el_sortD {kvs : List (Key × V)} {ks : List Int} {a : Addr} (ha : Ev M D te σ H fun v _ => v = .ref a) (hk : H a = some (.dK kvs)) (e1 : kvs.map (·.1) = ks.map Sum.inl) (h64 : ks.length < 64) (hm : ¬ M a) (hd : D ≠ some a) : EvL M D (tCB (rSortDI ()) (tCons te tNil)) σ H RI (srt ks) := fun H1 e Q q =>
  ha H1 e _ fun x H2 e2 px => ⟨a, kvs, ks, by rw [px], .inl ((e.then e2).keep _ _ hm hd hk), e1, h64, fun ys p h1 h2 hp => q p _ (e2.there p hp) (e2.new hp) (by
    rw [← srt_eq h1 h2]
    exact ⟨_, upd_same, ints_paired ys⟩)⟩
end
variable {P : Program} {w : World} {K : PySem.W.Frag} {mg : Str → Option Value} {base : PySem.Heap} {A : Nat → Addr} {F : Nat → FuncData}
def kvz (zs : List (Int × Addr)) : List (Key × V) := zs.map fun z => (Sum.inl z.1, V.ref z.2)
theorem kvz_none {k : Int} : ∀ {zs : List (Int × Addr)}, (∀ z ∈ zs, z.1 ≠ k) → valV (kvz zs) (Sum.inl k) = none
  | [], _ => rfl
  | z :: zs, h => by
    unfold kvz
    rw [List.map_cons, valV_neg (fun e => h z (List.mem_cons_self ..) (Sum.inl.inj e))]
    exact kvz_none fun y hy => h y (List.mem_cons_of_mem _ hy)
theorem kvz_some {k : Int} {q : Addr} : ∀ {zs : List (Int × Addr)}, (zs.map (·.1)).Nodup → (k, q) ∈ zs → valV (kvz zs) (Sum.inl k) = some (.ref q)
  | [], _, h => nomatch h
  | z :: zs, nd, h => by
    rw [List.map_cons, List.nodup_cons] at nd
    unfold kvz
    rcases List.mem_cons.mp h with e | m
    · rw [List.map_cons, valV_pos (by rw [← e]), ← e]
    · rw [List.map_cons, valV_neg (fun e => nd.1 (by
        rw [show z.1 = k from Sum.inl.inj e]
        exact List.mem_map.mpr ⟨_, m, rfl⟩))]
      exact kvz_some nd.2 m
def rest (p : List Int) (m : Int) (c : Nat) : Int := ((c : Int) - KM.hgt p c) % m
structure Lots (Hb H' : Hp) (a : Addr) (p : List Int) (m : Int) (cs : List Nat) (zs : List (Int × Addr)) : Prop where
  at_ : H' a = some (.dK (kvz zs))
  nk : (zs.map (·.1)).Nodup
  nq : (zs.map (·.2)).Nodup
  len : zs.length ≤ cs.length
  lst : ∀ z ∈ zs, z.2 ≠ a ∧ Hb z.2 = none ∧ LAt H' z.2 RN (cs.filter fun c => decide (rest p m c = z.1))
  all : ∀ c ∈ cs, ∃ z ∈ zs, z.1 = rest p m c
theorem Lots.mo {Hb H' H'' : Hp} {a : Addr} {p : List Int} {m : Int} {cs : List Nat} {zs : List (Int × Addr)} (h : Lots Hb H' a p m cs zs) (e : Ex M0 none H' H'') : Lots Hb H'' a p m cs zs :=
  ⟨e.keep _ _ (fun z => z) (fun z => nomatch z) h.at_, h.nk, h.nq, h.len, fun z hz => ⟨(h.lst z hz).1, (h.lst z hz).2.1, e.lat (fun z => z) (fun z => nomatch z) (h.lst z hz).2.2⟩, h.all⟩
/-- the column goes on its list -/
theorem Lots.push {Hb H' : Hp} {a q : Addr} {p : List Int} {m : Int} {cs : List Nat} {zs : List (Int × Addr)} {c : Nat} {xs : List V} {y : V} (hat : H' a = some (.dK (kvz zs))) (nk : (zs.map (·.1)).Nodup) (nq : (zs.map (·.2)).Nodup) (len : zs.length ≤ cs.length + 1)
    (lst : ∀ z ∈ zs, z.2 ≠ a ∧ Hb z.2 = none ∧ LAt H' z.2 RN (cs.filter fun c => decide (rest p m c = z.1))) (all : ∀ c ∈ cs, ∃ z ∈ zs, z.1 = rest p m c) (hq : (rest p m c, q) ∈ zs) (hx : H' q = some (.lst xs)) (hp : Paired (RN H') xs (cs.filter fun d => decide (rest p m d = rest p m c))) (hy : RN H' y c) :
    Lots Hb (upd H' q (.lst (xs ++ [y]))) a p m (cs ++ [c]) zs := by
  have tk : Sta H' (upd H' q (.lst (xs ++ [y]))) := Sta.put hx rfl (fun z => nomatch z)
  refine ⟨by rw [upd_ne (Ne.symm (lst _ hq).1)]; exact hat, nk, nq, by rw [List.length_append]; exact len, fun z hz => ⟨(lst z hz).1, (lst z hz).2.1, ?_⟩, fun d hd => ?_⟩
  · rw [List.filter_append]
    by_cases e : z.2 = q
    · have ez : z = (rest p m c, q) := by
        have : z.1 = rest p m c := by
          obtain ⟨i, hi⟩ := List.mem_iff_getElem?.mp hz
          obtain ⟨j, hj⟩ := List.mem_iff_getElem?.mp hq
          have h1 : (zs.map (·.2))[i]? = some q := by rw [List.getElem?_map, hi, ← e]; rfl
          have h2 : (zs.map (·.2))[j]? = some q := by rw [List.getElem?_map, hj]; rfl
          have hij := (List.getElem?_inj (List.getElem?_eq_some_iff.mp h1).1 nq).mp (h1.trans h2.symm)
          subst hij
          rw [hi] at hj
          cases hj
          rfl
        exact Prod.ext this e
      subst ez
      refine ⟨xs ++ [y], upd_same, paired_app (paired_mono (fun _ _ w => Mo.mono tk w) hp) ?_⟩
      rw [List.filter_cons, if_pos (by simp), List.filter_nil]
      exact .cons (Mo.mono tk hy) .nil
    · have hne : ¬ rest p m c = z.1 := fun e2 => e (by
        obtain ⟨i, hi⟩ := List.mem_iff_getElem?.mp hz
        obtain ⟨j, hj⟩ := List.mem_iff_getElem?.mp hq
        have h1 : (zs.map (·.1))[i]? = some z.1 := by rw [List.getElem?_map, hi]; rfl
        have h2 : (zs.map (·.1))[j]? = some z.1 := by rw [List.getElem?_map, hj, ← e2]; rfl
        have hij := (List.getElem?_inj (List.getElem?_eq_some_iff.mp h1).1 nk).mp (h1.trans h2.symm)
        subst hij
        rw [hi] at hj
        cases hj
        rfl)
      rw [List.filter_cons, if_neg (by simpa using hne), List.filter_nil, List.append_nil]
      obtain ⟨zs2, k1, k2⟩ := (lst z hz).2.2
      exact ⟨zs2, by rw [upd_ne e]; exact k1, paired_mono (fun _ _ w => Mo.mono tk w) k2⟩
  · rcases List.mem_append.mp hd with h | h
    · exact all d h
    · rw [List.mem_singleton.mp h]
      exact ⟨_, hq, rfl⟩
def sp_let_columns : Sp := sn3 RHp RHp RI (fun T p m => T.length < 40 ∧ p.length ≤ T.length ∧ 0 < m) fun T p m pa H' => ∃ (ks : List Int) (qs : List Addr), H' pa = some (.lst (qs.map V.ref)) ∧ ks.length = qs.length ∧ (∀ (j : Nat) q k, qs[j]? = some q → ks[j]? = some k → LAt H' q RN (KM.cls T p m k)) ∧ ∀ r, KM.cls T p m r ≠ [] → r ∈ ks
theorem ok_let_columns (T : Prog K mg A F) : FnOk P w K mg base CX0 3 (A 31) (F 31) ["heap", "part", "order"] sp_let_columns := by
  have G_free_columns := ok_free_columns (P := P) (w := w) (base := base) T
  have sc := sc_let_columns
  refine T.d_let_columns.ok sc_let_columns (fun vs H Q E h => ?_) (fun cdv _ outer s H vs Q E hr h => ?_)
  · obtain ⟨_, _, _, _, _, _, rfl, _⟩ := h
    rfl
  · obtain ⟨v, y, z, t, p, m, rfl, rt, rp, rm, ⟨hl, hle, hm⟩, q⟩ := h
    refine ⟨_, (pss_cons (ps_set (i := 3) sc.nd rfl (.inr rfl) pe_dnewK)
      (pss_cons (ps_for PassesOwn.never rfl (k_piL K rfl (pe_call G_free_columns (hr.mono (by decide)) (by rfl) T.d_free_columns.at_ T.d_free_columns.fn.kp T.d_free_columns.bi .nil pass0 (pa_cons (pv 0) (pa_cons (pv 1) pa_nil)))) (k_pgT K rfl rfl (pgs_cons (pg_name (i := 4) sc.nd rfl (.inl rfl)) (pgs_cons (pg_name (i := 5) sc.nd rfl (.inl rfl)) pgs_nil))) (pss_one (ps_expr (pe_bm PySem.F.plainAttrs_list PySem.F.slot_list_append PySem.F.type_list_append mt_append (pe_dsetd (pv 3) (pe_op op_mod (pv 5) (pv 2)) (pe_lst pa_nil) ⟨rfl, rfl, rfl, rfl⟩) (pa_cons (pv 4) pa_nil)))))
      (pss_one (ps_ret (pe_lc (own := [("rest", 6)]) (g := gName 6) (tt := tYes) rfl sc.nd (k_piL K rfl (pe_callB (call_sortedDI rfl) (by rfl) T.sorted (by decide +kernel) (pa_cons (pv 3) pa_nil))) (blkOk_by (N := N_let_columns) (sc := defScope s_let_columns) (by decide +kernel)) (fun _ _ _ _ _ => (pg_name (i := 6) sc.nd rfl (.inl rfl))) (fun _ _ _ _ _ => pts_nil) (fun _ _ _ _ _ => (pe_dget (Nat.lt_of_le_of_lt (Nat.add_le_add_left (by decide : 1 ≤ 64) _) hr.units) (pv 3) (pv 6) (fun _ _ => rfl)))))))), ?_⟩
    refine q_new e00 en_dnewK fun a H1 ha e1 ha1 => ?_
    have g1 : Good (fun b => b = a) none H1 := good1 (by rw [ha1]; exact fun z => nomatch z)
    have rt1 := e1.mo rt
    have rp1 := e1.mo rp
    have hfl := free_le t p
    have hpre : t.length < 1000 ∧ p.length ≤ t.length := ⟨by omega, hle⟩
    refine q_forB (R := RP RN RI) (xs := (KM.freeCols t p).map fun c : Nat => (c, (c : Int) - KM.hgt p c)) (Ex.refl g1) ?_ (fun Hb i σ' H' => (∃ b c d, σ' = [some v, some y, some z, some (.ref a), b, c, d]) ∧ ∃ zs, Lots Hb H' a p m ((KM.freeCols t p).take i) zs) ?_ ?_ ?_ ?_
    · exact ei_new (en_c2 (er_var rfl rt1) (er_var rfl rp1) hpre)
    · exact fun Hb e => ⟨⟨_, _, _, rfl⟩, [], e.keep _ _ (fun z => z) (fun z => nomatch z) ha1, List.nodup_nil, List.nodup_nil, Nat.zero_le _, (fun _ h => nomatch h), fun _ h => by simp at h⟩
    · exact fun Hb i σ' H' H'' ⟨h1, zs, h2⟩ e => ⟨h1, zs, h2.mo e⟩
    · rintro Hb e2 i u cd σ' H' hx e3 r ⟨⟨b, c, d, rfl⟩, zs, hz⟩ N hN
      rw [List.getElem?_map] at hx
      obtain ⟨cn, hcn, ecd⟩ := Option.map_eq_some_iff.mp hx
      subst ecd
      refine g_pair r fun vc vd rc rd => ?_
      have rm1 : RI H' z m := rm
      refine ⟨_, rfl, a, rfl, .inl ⟨_, .inl hz.at_⟩, ?_⟩
      refine er_mod (D := none) (M := M0) (i := (cn : Int) - KM.hgt p cn) (er_var rfl rd) (er_var rfl rm1) hm H' (Ex.refl good0) _ fun vk H3 e4 rk => ?_
      refine el_nil (R := RN) (M := M0) (D := none) H3 (Ex.refl good0) _ fun bq H4 hbq e5 lb => ?_
      have e45 := e4.trans e5
      have hz4 := hz.mo e45
      have hi : i < (KM.freeCols t p).length := (List.getElem?_eq_some_iff.mp hcn).1
      have hzl : zs.length < 1000 := by
        have := hz.len
        rw [List.length_take] at this
        omega
      have tks : (KM.freeCols t p).take (i + 1) = (KM.freeCols t p).take i ++ [cn] := take_step hcn
      have hfz : ∀ k : Int, (((KM.freeCols t p).take i).filter fun c => decide (rest p m c = k)).length < 100000 := fun k => by
        refine Nat.lt_of_le_of_lt (List.length_filter_le _ _) ?_
        rw [List.length_take]
        omega
      refine ⟨kvz zs, Sum.inl (rest p m cn), hz4.at_, rk, sz_lt (by unfold kvz; rw [List.length_map]; omega), fun v0 hv0 => ?_, fun hnone => ?_⟩
      · obtain ⟨z0, hz0, hzk⟩ : ∃ z0 ∈ zs, z0.1 = rest p m cn := Classical.byContradiction fun hno => by
          rw [kvz_none fun z0 h1 h2 => hno ⟨z0, h1, h2⟩] at hv0
          cases hv0
        have hz0' : (rest p m cn, z0.2) ∈ zs := by rw [← hzk]; exact hz0
        rw [kvz_some hz.nk hz0'] at hv0
        cases hv0
        have l0 := (hz4.lst z0 hz0).2.2
        rw [hzk] at l0
        refine ap_core (K := K) (D := none) (a := cn) l0 (hfz _) (fun z => nomatch z) good0 (er_var rfl (e45.mo rc)) fun H5 e6 xs yy h5 p5 r5 => ?_
        have hz5 := hz4.mo e6
        refine hN _ _ (((e3.then e45).then e6).putF (hz.lst z0 hz0).2.1 h5 rfl (fun z => nomatch z)) ⟨⟨_, _, _, rfl⟩, zs, ?_⟩
        rw [tks]
        exact Lots.push hz5.at_ hz5.nk hz5.nq (Nat.le_succ_of_le hz5.len) hz5.lst hz5.all hz0' h5 p5 r5
      · have hnew : ∀ z0 ∈ zs, z0.1 ≠ rest p m cn := fun z0 h1 h2 => by
          have h1' : (rest p m cn, z0.2) ∈ zs := by rw [← h2]; exact h1
          rw [kvz_some hz.nk h1'] at hnone
          cases hnone
        have hba : bq ≠ a := fun e => by
          have := e4.there bq hbq
          rw [e, hz.at_] at this
          cases this
        have hbz : ∀ z0 ∈ zs, z0.2 ≠ bq := fun z0 h1 h2 => by
          obtain ⟨xs, k1, _⟩ := (hz.lst z0 h1).2.2
          have := e4.there bq hbq
          rw [← h2, k1] at this
          cases this
        have tk : Sta H4 (upd H4 a (.dK (putK (kvz zs) (Sum.inl (rest p m cn)) (.ref bq)))) := Sta.put hz4.at_ rfl (fun z => nomatch z)
        have ek : putK (kvz zs) (Sum.inl (rest p m cn)) (.ref bq) = kvz (zs ++ [(rest p m cn, bq)]) := by
          rw [putK_new _ hnone]
          unfold kvz
          rw [List.map_append]
          rfl
        rw [ek] at tk ⊢
        have eP : Ex (fun b => b = a) none Hb (upd H4 a (.dK (kvz (zs ++ [(rest p m cn, bq)])))) := (e3.then e45).put rfl (fun z => nomatch z) hz4.at_ rfl (fun z => nomatch z)
        have hf0 : (((KM.freeCols t p).take i).filter fun c => decide (rest p m c = rest p m cn)) = [] := List.filter_eq_nil_iff.mpr fun c hc => by
          obtain ⟨z0, h1, h2⟩ := hz.all c hc
          have := hnew z0 h1
          rw [h2] at this
          simpa using this
        have lmo : ∀ {q0 : Addr} {l : List Nat}, q0 ≠ a → LAt H4 q0 RN l → LAt (upd H4 a (.dK (kvz (zs ++ [(rest p m cn, bq)])))) q0 RN l := fun hne ⟨xs, k1, k2⟩ => ⟨xs, by rw [upd_ne hne]; exact k1, paired_mono (fun _ _ w => Mo.mono tk w) k2⟩
        have lb2 := lmo hba lb
        refine ap_core (K := K) (D := none) (a := cn) lb2 (by simp) (fun z => nomatch z) good0 (er_var rfl (show RN (upd H4 a (.dK (kvz (zs ++ [(rest p m cn, bq)])))) vc cn from rc)) fun H5 e6 xs yy h5 p5 r5 => ?_
        have hbB : Hb bq = none := e3.there bq (e4.there bq hbq)
        refine hN _ _ ((eP.then e6).putF hbB h5 rfl (fun z => nomatch z)) ⟨⟨_, _, _, rfl⟩, zs ++ [(rest p m cn, bq)], ?_⟩
        rw [tks]
        refine Lots.push (zs := zs ++ [(rest p m cn, bq)]) (e6.keep _ _ (fun z => z) (fun z => nomatch z) upd_same) ?_ ?_ (by rw [List.length_append, List.length_singleton]; exact Nat.succ_le_succ hz.len) ?_ ?_ (List.mem_append_right _ (List.mem_singleton.mpr rfl)) h5 (by rw [hf0]; exact p5) r5
        · rw [List.map_append, List.nodup_append]
          exact ⟨hz.nk, by simp, fun x hx y hy e => by
            obtain ⟨z0, h1, h2⟩ := List.mem_map.mp hx
            simp at hy
            exact hnew z0 h1 (by rw [h2, e, hy])⟩
        · rw [List.map_append, List.nodup_append]
          exact ⟨hz.nq, by simp, fun x hx y hy e => by
            obtain ⟨z0, h1, h2⟩ := List.mem_map.mp hx
            simp at hy
            exact hbz z0 h1 (by rw [h2, e, hy])⟩
        · intro z0 hz0
          rcases List.mem_append.mp hz0 with h | h
          · exact ⟨(hz.lst z0 h).1, (hz.lst z0 h).2.1, e6.lat (fun z => z) (fun z => nomatch z) (lmo (hz.lst z0 h).1 (hz4.lst z0 h).2.2)⟩
          · rw [List.mem_singleton.mp h]
            refine ⟨hba, hbB, ?_⟩
            show LAt H5 bq RN _
            rw [hf0]
            exact ⟨xs, h5, p5⟩
        · intro c hc
          obtain ⟨z0, h1, h2⟩ := hz.all c hc
          exact ⟨z0, List.mem_append_left _ h1, h2⟩
    · rintro Hb e2 σ' H' e3 ⟨⟨b, c, d, rfl⟩, zs, hz⟩
      rw [List.length_map, List.take_length] at hz
      have hsame : Same H H' := back1 e1 ha (((Ex.refl g1).then e2).trans e3)
      have hz64 : zs.length < 64 := by
        have := hz.len
        omega
      have hmem : ∀ k ∈ srt (zs.map (·.1)), ∃ q, (k, q) ∈ zs := fun k hk => by
        obtain ⟨z0, h1, h2⟩ := List.mem_map.mp ((srt_perm _).mem_iff.mp hk)
        exact ⟨z0.2, by rw [← h2]; exact h1⟩
      refine s_retN (Ex.refl good0) (en_lc (R := RI) (S := RV) (fun i l => l.length = i ∧ ∀ (j : Nat) x, l[j]? = some x → ∃ k q, (srt (zs.map (·.1)))[j]? = some k ∧ (k, q) ∈ zs ∧ x = .ref q) (ei_new (el_sortD (ks := zs.map (·.1)) (ev_var rfl) hz.at_ (by unfold kvz; rw [List.map_map, List.map_map]; rfl) (by rw [List.length_map]; exact hz64) (fun z => z) (fun z => nomatch z))) (by rw [(srt_perm _).length_eq, List.length_map]; omega) ⟨rfl, fun j x h => by simp at h⟩ (fun i l h => by rw [h.1]; exact Nat.le_refl _) fun i x k l H'' hx e r ⟨gl, gg⟩ => tg_name (fun _ => rfl) ⟨fun b => b = true, et_yes.imp fun _ h => h, fun _ => ?_, fun h => by cases h⟩) fun pa H2 hpa e4 ⟨l, ⟨xs, l1, l2⟩, l3, l4⟩ => ?_
      · obtain ⟨q0, hq0⟩ := hmem k (List.mem_of_getElem? hx)
        intro H5 e5 Q qq
        refine ⟨_, rfl, _, rfl, a, .ref q0, rfl, ?_, qq _ H5 (Ex.refl good0) ⟨_, rfl, by rw [List.length_append, gl]; rfl, fun j x hj => ?_⟩⟩
        · have e9 := (e.trans e5).keep _ _ (fun z => z) (fun z => nomatch z) hz.at_
          rw [show x = .int k from r, ← kvz_some hz.nk hq0]
          exact DGet.k (k := Sum.inl k) e9
        · by_cases hjl : j < l.length
          · rw [List.getElem?_append_left hjl] at hj
            exact gg j x hj
          · rw [List.getElem?_append_right (by omega)] at hj
            have : j = i := by
              have := (List.getElem?_eq_some_iff.mp hj).1
              simp at this
              omega
            subst this
            rw [← gl, Nat.sub_self] at hj
            cases hj
            exact ⟨k, q0, hx, hq0, rfl⟩
      · have ex : xs = l := by
          clear l4 l3 l1
          induction l2 with
          | nil => rfl
          | cons r t ih => rw [show _ = _ from r, ih]
        subst ex
        have key : ∀ n, n ≤ xs.length → ∃ qs : List Addr, xs.take n = qs.map V.ref ∧ qs.length = n ∧ ∀ (j : Nat) q, qs[j]? = some q → ∃ k, (srt (zs.map (·.1)))[j]? = some k ∧ (k, q) ∈ zs := by
          intro n
          induction n with
          | zero => exact fun _ => ⟨[], rfl, rfl, fun j q h => by simp at h⟩
          | succ n ih =>
            intro hn
            obtain ⟨qs, h1, h2, h3⟩ := ih (by omega)
            obtain ⟨k, q, h4, h5, h6⟩ := l4 n _ (List.getElem?_eq_getElem (by omega : n < xs.length))
            refine ⟨qs ++ [q], by rw [take_step (List.getElem?_eq_getElem (by omega : n < xs.length)), h1, List.map_append, h6]; rfl, by rw [List.length_append, h2]; rfl, fun j q' hj => ?_⟩
            by_cases hjl : j < qs.length
            · rw [List.getElem?_append_left hjl] at hj
              exact h3 j q' hj
            · rw [List.getElem?_append_right (by omega)] at hj
              have : j = n := by
                have := (List.getElem?_eq_some_iff.mp hj).1
                simp at this
                omega
              subst this
              rw [h2, Nat.sub_self] at hj
              cases hj
              exact ⟨k, h4, h5⟩
        obtain ⟨qs, h1, h2, h3⟩ := key xs.length (Nat.le_refl _)
        rw [List.take_length] at h1
        refine q pa H2 (Classical.byContradiction fun hne => ?_) (hsame.trans e4.toSame) ⟨srt (zs.map (·.1)), qs, by rw [l1, h1], by rw [h2, l3], fun j q k hj hk => ?_, fun r hr => ?_⟩
        · cases hh : H pa with
          | none => exact hne hh
          | some o =>
            have := hsame pa o hh
            rw [hpa] at this
            cases this
        · obtain ⟨k', h4, h5⟩ := h3 j q hj
          rw [hk] at h4
          cases h4
          exact e4.lat (fun z => z) (fun z => nomatch z) (hz.lst _ h5).2.2
        · obtain ⟨c, hc⟩ := List.exists_mem_of_ne_nil _ hr
          have hc' := List.mem_filter.mp hc
          obtain ⟨z0, h4, h5⟩ := hz.all c hc'.1
          rw [(srt_perm _).mem_iff]
          refine List.mem_map.mpr ⟨z0, h4, ?_⟩
          rw [h5]
          simpa [rest] using hc'.2
end KX
namespace KX
open PySem PySem.Spec PyProof.Rows L2
abbrev TK (X : Cx) := tupleKind (mixKind X.prog X.w)
section
variable {X : Cx} {pins : List (Addr × Obj)} {σ : L2.St} {H : Hp} {s : Shared} {a b : Addr} {kvs : List (List L2.Key × V)} {k : List L2.Key} {v : V} {r : Value} {xs : List (List L2.Key × Addr × Value)} {A : Around} {E : Value → Shared → Prop}
/-- a store in a dict with tuple keys, seen from the ghost heap -/
theorem dt_put {h' : PySem.Heap} {t' : Nat} (I : L2.Inv X pins σ H s) (e : H a = some (.dT kvs)) (eb : H b = some (.tup (k.map kV))) (rel : KT H kvs xs) (rv : RelV v r) (l : kvs.length < sizeLine)
    (dd : h'.DictOfH (TK X) a (storedH xs k b r)) (hs : Heap.SameBut a s.heap h') : L2.Inv X pins σ (upd H a (.dT (putK kvs k v))) { s with heap := h', toks := t' } := by
  have hd : (a == sysModules) = false := (dt_of I.hok e).2.1
  have hl : (putK kvs k v).length ≤ sizeLine := Nat.le_trans (length_putK kvs k v) l
  obtain ⟨q, es, ep, hq, h2, h3, h4, _, h5⟩ := dd
  have kt : KT (upd H a (.dT (putK kvs k v))) (putK kvs k v) (storedH xs k b r) := (rel.put k eb rv).keeps fun c ys ec => by
    by_cases z : c = a
    · subst z
      rw [e] at ec
      cases ec
    · rw [upd_ne z]
      exact ec
  exact d_write I (by rw [e]; exact True.intro) hs ⟨q, hq⟩ ⟨hl, hd, _, kt, q, es, ep, hq, h2, h3, h4, h5⟩
/-- d[k] = v by a comprehension -/
theorem dt_set {Q : Unit → Shared → Prop} (hu : A.units < cLine) (I : L2.Inv X pins σ H s) (e : H a = some (.dT kvs)) (eb : H b = some (.tup (k.map kV))) (l : kvs.length < sizeLine) (rv : RelV v r) (h : ∀ s', L2.Inv X pins σ (upd H a (.dT (putK kvs k v))) s' → Q () s') :
    wpAny (model X.prog X.w) A (dictSet a (.ref b) r) Q E s := by
  obtain ⟨z, hd, xs, rel, dd⟩ := dt_of I.hok e
  exact wpAny_dictSet_heap (hsz := by rw [← Paired.length rel]; exact z) hu (key_of I.hok eb) dd fun h' d' hs => h _ (dt_put I e eb rel rv l d' hs)
/-- d.setdefault(k, v) -/
theorem dt_setd {Q : Value → Shared → Prop} (hu : A.units + 1 < cLine) (I : L2.Inv X pins σ H s) (e : H a = some (.dT kvs)) (eb : H b = some (.tup (k.map kV))) (l : kvs.length < sizeLine) (rv : RelV v r)
    (h1 : ∀ y, valV kvs k = some y → ∀ w' s', L2.Inv X pins σ H s' → RelV y w' → Q w' s') (h2 : valV kvs k = none → ∀ s', L2.Inv X pins σ (upd H a (.dT (putK kvs k v))) s' → Q r s') :
    wpAny (model X.prog X.w) A (call (.builtin "dict.setdefault") [.ref a, .ref b, r]) Q E s := by
  obtain ⟨z, hd, xs, rel, dd⟩ := dt_of I.hok e
  have hv := rel.val k
  refine call_setdefault_heap (hsz := by rw [← Paired.length rel]; exact z) (tupleKind_room_in1 hu) (key_of I.hok eb) hd dd (fun p hp => ?_) fun hn h' d' hs => ?_
  · rw [hp] at hv
    cases q0 : valV kvs k with
    | none => rw [q0] at hv; exact (show False from hv).elim
    | some y => rw [q0] at hv; exact h1 y q0 _ _ (I.tok _) hv
  · rw [hn] at hv
    cases q0 : valV kvs k with
    | some y => rw [q0] at hv; exact (show False from hv).elim
    | none => exact h2 q0 _ (dt_put I e eb rel rv l d' hs)
end
/-- d.setdefault(y, z), the key a tuple -/
def tSetT (td ty tx : TE) : TE := fun σ H Q => td σ H fun x H1 => ∃ a, x = .ref a ∧ IsD H1 a ∧ ty σ H1 fun y H2 => tx σ H2 fun z H3 => ∃ (kvs : List (List L2.Key × V)) (k : List L2.Key) (b : Addr), H3 a = some (.dT kvs) ∧ y = .ref b ∧ H3 b = some (.tup (k.map kV)) ∧ kvs.length < sizeLine ∧
  (∀ v, valV kvs k = some v → Q v H3) ∧ (valV kvs k = none → Q z (upd H3 a (.dT (putK kvs k z))))
section
variable {X : Cx} {o e f : Expr} {td ty tx : TE} {apos cpos : Pos}
theorem pe_setT (hu : X.A.units + 1 < cLine) (ho : PE X o td) (he : PE X e ty) (hf : PE X f tx) (m : M2 X o "setdefault" apos e f cpos) : PE X (.Call (.Attribute o "setdefault" apos) [e, f] [] cpos) (tSetT td ty tx) := ⟨fun pins s σ H Q I h =>
  wpAny_Call_method m.base m.few m.line PySem.F.plainAttrs_dict PySem.F.slot_dict_setdefault PySem.F.type_dict_setdefault (thn (ho.run pins s σ H _ I h) fun u s1 ⟨x, H1, I1, rx, a, ex, d, q1⟩ => by
    subst ex
    obtain rfl : u = Value.ref a := rx
    refine ⟨(isD_at I1 d).1, (isD_at I1 d).2.1, ?_⟩
    rw [m.trees]
    refine Calls.callWith_builtin rfl (Calls.evalArgs_plain (Calls.spliced_cons (thn (he.run pins s1 σ H1 _ I1 q1) fun iv s2 ⟨y, H2, I2, ry, q2⟩ => Calls.spliced_cons (thn (hf.run pins s2 σ H2 _ I2 q2) fun fv s3 ⟨z, H3, I3, rz, kvs, k, b, ea, ey, eb, hl, q3, q4⟩ => Calls.spliced_nil ?_))))
    subst ey
    obtain rfl : iv = Value.ref b := ry
    exact dt_setd hu I3 ea eb hl rz (fun v hv w' s4 I4 rw' => ⟨v, _, I4, rw', q3 v hv⟩) fun hn s4 I4 => ⟨z, _, I4, rz, q4 hn⟩)⟩
end
/-- {k: v}, the key a tuple -/
def tDispT (tk tv : TE) : TE := fun σ H Q => ∀ p, H p = none → tk σ (upd H p (.dT [])) fun y H1 => tv σ H1 fun v H2 => H2 p = some (.dT []) ∧ ∃ (b : Addr) (k : List L2.Key), y = .ref b ∧ H2 b = some (.tup (k.map kV)) ∧ Q (.ref p) (upd H2 p (.dT [(k, v)]))
theorem pe_dispT {X : Cx} {pos : Pos} {k v : Expr} {tk tv : TE} (hu : X.A.units < cLine) (hk : PE X k tk) (hv : PE X v tv) : PE X (.Dict [some k] [v] pos) (tDispT tk tv) := by
  refine ⟨fun pins s σ H Q I q => ?_⟩
  have hn := I.hok.fresh (Nat.le_refl s.heap.objs.size)
  have I1 := I.laid (a := s.heap.objs.size) (o := .dT []) (h' := s.heap.push { cls := .type "dict", data := .dict #[] }) (t' := s.toks) (fun _ _ q => Heap.get?_push_of_some _ q) (Nat.le_refl _) (dt_empty s.heap I.big)
  have hlen := pairTrees_length [some k] [v] X.env pos rfl rfl
  rw [arm_eval_Dict, zip_pairTrees [some k] [v] X.env pos rfl rfl, dictDisplay_pairs _ (by intro z; rw [z] at hlen; simp at hlen) (by rw [hlen]; show 1 < 17; decide)]
  refine wpAny_bind (wpAny_standAt (wpAny_bind (wpAny_subDictH (knd := TK X) hu (by rw [hlen]; show 1 ≤ 15; decide) (pairTrees_cons_walk (thn (hk.run pins _ σ _ _ I1 (q _ hn)) fun u s1 ⟨y, H1, I2, ry, q1⟩ => thn (hv.run pins s1 σ H1 _ I2 q1) fun u2 s2 ⟨z, H2, I3, rz, e2, b, ks, ey, eb, q2⟩ => pairTrees_nil_walk ?_)))))
  subst ey
  obtain rfl : u = Value.ref b := ry
  obtain ⟨z0, hd, xs, rel, dd⟩ := dt_of I3.hok e2
  cases rel
  refine ⟨[(ks, b, u2)], ⟨rfl, rfl, key_of I3.hok eb, True.intro⟩, dd, fun h' tk d' hs => wpAny_pure ⟨.ref s.heap.objs.size, _, dt_put (xs := []) I3 e2 eb .nil rz (by decide) d' hs, rfl, q2⟩⟩
/-! ### dict(d), the keys tuples whose hashes differ -/
section
variable {prog : Program} {w : World} {K : Type} [DecidableEq K] {knd : HeapKind prog w K} {A : Around} {E : Value → Shared → Prop} {s : Shared}
theorem call_dictT {o : Addr} {more : List (K × Addr × Value)} {Q : Value → Shared → Prop} (hu : knd.room A.in1.in1) (hoS : (o == sysModules) = false) (ho : s.heap.DictOfH knd o more) (hsz : more.length ≤ sizeLine)
    (hap : (∀ x ∈ more, s.TypeIs (.ref x.2.1) "tuple") ∧ (more.map fun x => knd.hash x.1).Nodup)
    (hst : (s.heap.push { cls := .type "dict", data := .dict #[] }).DictOfH knd o more)
    (h : ∀ h', h'.DictOfH knd s.heap.objs.size more → Heap.SameBut s.heap.objs.size (s.heap.push { cls := .type "dict", data := .dict #[] }) h' → Q (.ref s.heap.objs.size) { s with heap := h' }) :
    wpAny (model prog w) A (call (.type "dict") [.ref o]) Q E s := by
  refine callType_codes (Q₁ := fun obj s₁ => obj = .ref s.heap.objs.size ∧ s₁ = { s with heap := s.heap.push { cls := .type "dict", data := .dict #[] } }) F.kt_called_dict (F.kt_typeCall_dict_1 _) F.entry_dict_init (kt_code_dict_new _ ⟨rfl, rfl⟩) ?_
  rintro obj s₁ ⟨rfl, rfl⟩
  have n0 : (s.heap.push { cls := .type "dict", data := .dict #[] }).DictOfH knd s.heap.objs.size [] := Heap.DictOfH.new s.heap
  have hdo : s.heap.objs.size ≠ o := fun e => by
    obtain ⟨_, _, _, hg, _⟩ := ho
    rw [← e] at hg
    exact absurd (Heap.lt_size hg) (Nat.lt_irrefl _)
  refine ⟨n0.typeIs, F.args_dict_init_2 _ _, ?_⟩
  unfold Builtin.«dict.__init__»
  refine wpAny_bind ?_
  unfold Builtin.Dict.selfAndRest
  refine wpAny_bind (wpAny_notOrdered_dict n0.typeIs (show wpAny _ _ (pure (s.heap.objs.size, [Value.ref o])) _ _ _ from wpAny_pure ?_))
  have ty : ∀ x ∈ more, Shared.TypeIs { s with heap := s.heap.push { cls := .type "dict", data := .dict #[] } } (.ref x.2.1) "tuple" := fun x hx => by
    obtain ⟨ob, h1, h2⟩ := hap.1 x hx
    exact ⟨ob, Heap.get?_push_of_some _ h1, h2⟩
  exact updateFrom_dictH .none hu hdo hoS n0 hst (.inr ⟨ty, hap.2⟩) (by simpa using hsz) fun h' d' _ hs => ⟨rfl, h h' (by rw [storedAllH_nil_of_nodup more ho.nodup] at d'; exact d') hs⟩
end
section
variable {X : Cx}
theorem cr_dictT (hu : X.A.units + 2 < cLine) : CallR X (.type "dict") (fun xs H Q => ∃ (a : Addr) (kvs : List (List L2.Key × V)), xs = [.ref a] ∧ Rd H a (.dT kvs) ∧ (kvs.map fun kv => tupleKeyHash (mixKind X.prog X.w) kv.1).Nodup ∧ ∀ p, H p = none → Q (.ref p) (upd H p (.dT kvs))) := by
  intro pins s σ H xs us Q I r q
  obtain ⟨a, kvs, rfl, hd, hh, q⟩ := q
  obtain ⟨u, rfl, rx⟩ := r.one
  cases rx
  obtain ⟨z, lo, vs, rel, dd⟩ := dt_rd I.hok hd
  have hmap : ∀ {l : List (List L2.Key × V)} {m : List (List L2.Key × Addr × Value)}, KT H l m → (m.map fun x => (TK X).hash x.1) = l.map fun kv => tupleKeyHash (mixKind X.prog X.w) kv.1 := by
    intro l m q
    induction q with
    | nil => rfl
    | cons h t ih => rw [List.map_cons, List.map_cons, ih, h.1]; rfl
  obtain ⟨ob, es, ep, h1, h2, h3, h4, h5, h6⟩ := id dd
  have h5' : ∀ x ∈ vs, (TK X).is (s.heap.push { cls := .type "dict", data := .dict #[] }) x.1 x.2.1 := fun x hx => tupleKind_stays.stays (fun _ _ _ _ e _ => Heap.get?_push_of_some _ e) (h5 x hx)
  refine call_dictT (knd := TK X) hu lo dd (by rw [← Paired.length rel]; exact z) ⟨fun x hx => tupleKind_stays.tuple (h5 x hx), by rw [hmap rel]; exact hh⟩ ⟨ob, es, ep, Heap.get?_push_of_some _ h1, h2, h3, h4, h5', h6⟩ fun h' d' hs => ?_
  have hm : (s.heap.objs.size == sysModules) = false := beq_eq_false_iff_ne.mpr (Nat.ne_of_gt I.big)
  have hf := I.hok.fresh (Nat.le_refl s.heap.objs.size)
  obtain ⟨o2, es2, ep2, g1, g2, g3, g4, _, g6⟩ := d'
  have kt : KT (upd H s.heap.objs.size (.dT kvs)) kvs vs := rel.keeps fun c ys ec => same_new hf c _ ec
  exact ⟨.ref s.heap.objs.size, upd H s.heap.objs.size (.dT kvs), I.laid (t' := s.toks) (fun b u e => (hs.2 b (Nat.ne_of_lt (Heap.lt_size e))).trans (Heap.get?_push_of_some _ e)) (Nat.le_refl _)
    (show ObjOk X.prog X.w _ _ _ (.dT kvs) from ⟨z, hm, vs, kt, o2, es2, ep2, g1, g2, g3, g4, g6⟩), rfl, q _ hf⟩
end
end KX
namespace KX
open PySem PySem.Spec PyProof.Rows L2
/-! ### sorted(d, key=sum, reverse=True), the keys tuples of ints -/
section
variable {prog : Program} {w : World} {A : Around} {E : Value → Shared → Prop} {s : Shared}
theorem sum_tup {b : Addr} {its : List Value} {ns : List Int} (hh : A.handled = none) (hl : s.heap.IsTuple b its.toArray) (hi : IntsAre its ns) : wpAny (model prog w) A (call (.builtin "sum") [.ref b]) (PySem.W.KeyPure (.int ns.sum) s) E s := by
  obtain ⟨xs, e⟩ := hi.allInts.items
  have hn : numsOf (intItems xs).toList = ns := by rw [← e]; exact hi.numsOf
  rw [nums_intItems] at hn
  subst hn
  rw [e] at hl
  have hlt : b < s.heap.objs.size := by obtain ⟨_, q, _⟩ := hl; exact Heap.lt_size q
  refine call_sum_walkG (wpAny_pyIter_tuple hl ⟨_, [s.heap.objs.size, b], [s.heap.objs.size], _, _, _, numAt xs, rfl, Walks.tuple (A := A.in1) hh _ b (Nat.ne_of_lt hlt) (intItems xs), ⟨⟨_, Heap.get?_push_size _ rfl, rfl, rfl⟩, hl.push _⟩, fun c hc => ?_, (fun _ _ => intItems_at), fun h' tk t' hk => ?_⟩)
  · show c < (s.heap.push _).objs.size
    rw [Heap.size_push]
    rcases List.mem_cons.mp hc with rfl | hc
    · exact Nat.lt_succ_self _
    · rw [List.mem_singleton.mp hc]
      exact Nat.lt_succ_of_lt hlt
  · refine ⟨h', tk, rfl, fun c o q => hk c o (fun z => ?_) (Heap.get?_push_of_some _ q), ?_⟩
    · rw [List.mem_singleton.mp z] at q
      exact absurd (Heap.lt_size q) (Nat.lt_irrefl _)
    · have hsz : (intItems xs).size = xs.size := by simp [intItems]
      rw [hsz, preSum_eq, List.take_of_length_le (by simp)]
      exact .int _ _
end
theorem each_refs : ∀ {bs : List Addr} {us : List Value}, us = bs.map Value.ref → PySem.W.EachIs (fun v b => v = Value.ref b) us bs
  | [], _, e => by subst e; exact .nil
  | b :: bs, _, e => by subst e; exact .cons rfl (each_refs rfl)
theorem refs_each {us : List Value} {bs : List Addr} (h : PySem.W.EachIs (fun v b => v = Value.ref b) us bs) : us = bs.map Value.ref := by
  induction h with
  | nil => rfl
  | cons r t ih => rw [r, ih]; rfl
def vI : V → Int
  | .int i => i
  | _ => 0
def sumAt (H : Hp) (b : Addr) : Int := match H b with
  | some (.tup xs) => (xs.map vI).sum
  | _ => 0
theorem sumAt_of {H : Hp} {b : Addr} {ns : List Int} (h : H b = some (.tup (ns.map V.int))) : sumAt H b = ns.sum := by
  unfold sumAt
  rw [h]
  show ((ns.map V.int).map vI).sum = ns.sum
  rw [List.map_map, show vI ∘ V.int = id from rfl, List.map_id]
theorem paired_atR {α β : Type} {F : α → β → Prop} : ∀ {xs : List α} {l : List β} {i : Nat} {y : β}, Paired F xs l → l[i]? = some y → ∃ x, xs[i]? = some x ∧ F x y
  | _, _, i, _, .nil, h => by simp at h
  | _, _, 0, _, .cons r _, h => by cases h; exact ⟨_, rfl, r⟩
  | _, _, i + 1, _, .cons _ t, h => paired_atR (i := i) t h
/-- keys of ints -/
def IntKeys (kvs : List (List L2.Key × V)) : Prop := ∀ kv ∈ kvs, ∃ ns : List Int, kv.1 = ns.map Sum.inl
theorem sort_sum {X : Cx} {pins : List (Addr × Obj)} {σ : L2.St} {H : Hp} {s : Shared} {d : Addr} {kvs : List (List L2.Key × V)} {Q : VK} (hc : X.calm = true) (hu : X.A.units + 3 < cLine) (I : L2.Inv X pins σ H s) (hd : Rd H d (.dT kvs)) (hk : IntKeys kvs)
    (q : ∀ (p : Addr) (bs bs' : List Addr), H p = none → IsKeys H kvs bs → bs'.Perm bs → Q (.ref p) (upd H p (.lst (bs'.map V.ref)))) :
    wpAny (model X.prog X.w) X.A (call (.builtin "sorted") [.ref d] [(Str.ofString "key", .builtin "sum"), (Str.ofString "reverse", .bool true)]) (EP X pins σ Q) X.xe s := by
  obtain ⟨z, hs, ks, pr, o, es, ep, ho, hx, hdt, he, hn⟩ := (show ObjOk X.prog X.w H s.heap d (.dT kvs) from hd.ok I.hok)
  have l1 : es.size = ks.length := size_of_entries he
  have l2 : kvs.length = ks.length := Paired.length pr
  refine call_function_entry_kw kind_sorted plain_sorted entry_sorted (ksk_s2 _ _ _) ?_
  unfold Builtin.«sorted»
  refine wpAny_bind (m := checkCount "sorted" 1 1 _) (wpAny_pure ?_)
  refine wpAny_bind (PySem.W.kdu_collect (A := X.A.in1) (kdl_raw hs hx hdt) (I.ok.hd hc) ho (by omega) fun h' tk acc hk' hacc => ?_)
  have ea : acc.toList = (ks.map fun x => x.2.1).map Value.ref := by
    apply List.ext_getElem?
    intro j
    rw [List.map_map, List.getElem?_map]
    have hl : acc.toList.length = ks.length := by rw [Array.length_toList, hacc.1]; exact l1
    cases hj : acc.toList[j]? with
    | none =>
      have h1 := List.getElem?_eq_none_iff.mp hj
      rw [List.getElem?_eq_none (by omega)]
      rfl
    | some v =>
      obtain ⟨en, hen, hv⟩ := hacc.2 j v (by rw [← Array.getElem?_toList]; exact hj)
      have qe := entry_at he j
      rw [hen] at qe
      cases hb : ks[j]? with
      | none => rw [hb] at qe; cases qe
      | some b =>
        rw [hb] at qe
        have e2 : en = entryOfKey (TK X) b := Option.some.inj qe
        rw [hv, e2]
        rfl
  have I1 : L2.Inv X pins σ H { s with heap := h', toks := tk } := I.kept hk'
  have hal : acc.toList.length = ks.length := by rw [ea, List.length_map, List.length_map]
  have hz : acc.toList.length ≤ sizeLine := by omega
  refine wpAny_bind (wpAny_newList ?_ hz)
  have hoL : (h'.push (seqObj "list" acc.toList.toArray 0)).get? h'.objs.size = some (seqObj "list" acc.toList.toArray 0) := Heap.get?_push_size _ rfl
  show wpAny _ _ _ _ _ { s with heap := h'.push (seqObj "list" acc.toList.toArray 0), toks := tk }
  refine wpAny_bind (wpAny_holding (wpAny_call_entry_kw slot_list_sort ⟨_, hoL, rfl⟩ entry_list_sort ?_ (ksk_l2 _ _ _)))
  rw [ksk_t5]
  have hkeys := isKeys_of pr
  -- the sums
  have hsum : ∀ b ∈ ks.map (fun x => x.2.1), ∃ ns : List Int, H b = some (.tup (ns.map V.int)) := fun b hb => by
    obtain ⟨j, hj⟩ := List.mem_iff_getElem?.mp hb
    obtain ⟨x, h1, h2⟩ := paired_atR hkeys hj
    obtain ⟨ns, e9⟩ := hk x (List.mem_of_getElem? h1)
    exact ⟨ns, by rw [h2, e9, List.map_map]; rfl⟩
  have hlt : ∀ b ∈ ks.map (fun x => x.2.1), b ≠ h'.objs.size := fun b hb e => by
    obtain ⟨ns, h1⟩ := hsum b hb
    obtain ⟨its, rv, pl, _⟩ := I1.tuple (SqT.of (K := X.K) h1)
    have := pl.lt
    rw [e] at this
    exact Nat.lt_irrefl _ this
  refine PySem.W.keyH_tree (kz := (ks.map fun x => x.2.1).map fun b => PyData.int (sumAt H b)) hoL (by rw [ea]; simp) hz (fun d1 h1 d2 h2 => ?_) (.inr fun d1 h1 => ?_) (fun d1 h1 => ?_) (fun i v k h1 h2 h tk' kp => ?_) fun h'' tk' out c kp hD ko => ⟨_, rfl, ?_⟩
  · obtain ⟨b1, _, rfl⟩ := List.mem_map.mp h1
    obtain ⟨b2, _, rfl⟩ := List.mem_map.mp h2
    rfl
  · obtain ⟨b1, _, rfl⟩ := List.mem_map.mp h1
    exact ⟨fun z => (by cases z), fun _ z => (by cases z)⟩
  · obtain ⟨b1, _, rfl⟩ := List.mem_map.mp h1
    show X.A.units + 2 + _ < cLine
    simp [PyData.depth]
    omega
  · rw [ea, List.getElem?_map] at h1
    rw [List.getElem?_map] at h2
    obtain ⟨b, hb, rfl⟩ := Option.map_eq_some_iff.mp h1
    rw [hb] at h2
    cases h2
    obtain ⟨ns, e8⟩ := hsum b (List.mem_of_getElem? hb)
    obtain ⟨its, rv, pl, _⟩ := I1.tuple (SqT.of (K := X.K) e8)
    have hT : (Shared.heap { s with heap := h, toks := tk' }).IsTuple b its.toArray := by
      obtain ⟨ob, g1, g2⟩ := pl
      exact ⟨ob, kp b ob (hlt b (List.mem_of_getElem? hb)) (Heap.get?_push_of_some _ g1), g2⟩
    have := sum_tup (prog := X.prog) (w := X.w) (A := X.A.in1.in1) (E := fun _ _ => False) (I.ok.hd hc) hT rv.ints
    rw [← sumAt_of e8] at this
    exact this
  · have eo := refs_each (PySem.W.keyedOut_each (fun b => PyData.int (sumAt H b)) ko (each_refs ea))
    have hp : ((ks.map fun x => x.2.1).mergeSort (PySem.W.dataLe true fun b => PyData.int (sumAt H b))).Perm (ks.map fun x => x.2.1) := List.mergeSort_perm _ _
    generalize (ks.map fun x => x.2.1).mergeSort (PySem.W.dataLe true fun b => PyData.int (sumAt H b)) = bs' at eo hp
    subst eo
    have hlen : (bs'.map V.ref).length ≤ sizeLine := by rw [List.length_map, hp.length_eq, List.length_map]; omega
    refine wpAny_pure ⟨_, rfl, .ref h'.objs.size, upd H h'.objs.size (.lst (bs'.map V.ref)), I1.laid (t' := tk') (fun b u e => kp b u (Nat.ne_of_lt (Heap.lt_size e)) (Heap.get?_push_of_some _ e)) (Nat.le_refl _)
      (show ObjOk X.prog X.w _ _ _ (.lst (bs'.map V.ref)) from ⟨hlen, _, c, vals_refs bs', hD⟩), rfl, q _ _ _ (I1.hok.fresh (Nat.le_refl _)) hkeys hp⟩
end KX
namespace KX
open PySem PySem.Spec PyProof.Rows L2
def tSortSum (te : TE) : TE := fun σ H Q => te σ H fun x H1 => ∃ (d : Addr) (kvs : List (List L2.Key × V)), x = .ref d ∧ Rd H1 d (.dT kvs) ∧ IntKeys kvs ∧ ∀ (p : Addr) (bs bs' : List Addr), H1 p = none → IsKeys H1 kvs bs → bs'.Perm bs → Q (.ref p) (upd H1 p (.lst (bs'.map V.ref)))
section
variable {X : Cx} {e : Expr} {te : TE} {p p2 pos kp1 kp2 : Pos}
theorem pe_sortSum {tv : Expr} (hc : X.calm = true) (hu : X.A.units + 3 < cLine) (hg : Gl X "sorted") (hm : X.mg "sorted" = none) (hg2 : Gl X "sum") (hm2 : X.mg "sum" = none) (ha : PE X e te) (hv : PE X tv (tC (.bl true)))
    (hs : starEach [e] X.env = (false, eval e X.env) :: starEach [] X.env := by rfl) (he : backTo pos (starEach [e] X.env) = (false, eval e X.env) :: backTo pos (starEach [] X.env) := by rfl) (hpl : (backTo pos (starEach [e] X.env)).any (·.1) = false := by rfl) :
    PE X (.Call (.Name "sorted" p) [e] [⟨some "key", .Name "sum" p2, kp1⟩, ⟨some "reverse", tv, kp2⟩] pos) (tSortSum te) := by
  refine ⟨fun pins s σ H Q I h => ?_⟩
  refine wpAny_Call_Name_kw (ld_blt I hg hm boot_sorted ?_)
  refine PyProof.Rows.callWith_kw (thn ((pa_cons ha pa_nil hs).run pos pins s σ H (fun vs H1 => match vs with
    | [x] => ∃ (d : Addr) (kvs : List (List L2.Key × V)), x = .ref d ∧ Rd H1 d (.dT kvs) ∧ IntKeys kvs ∧ ∀ (p : Addr) (bs bs' : List Addr), H1 p = none → IsKeys H1 kvs bs → bs'.Perm bs → Q (.ref p) (upd H1 p (.lst (bs'.map V.ref)))
    | _ => False) I h) fun us s1 ⟨vs, H1, I1, r1, hq⟩ => ?_) he hpl
  match vs, hq, r1 with
  | [x], ⟨d, kvs, ex, hd, hk, q⟩, r1 =>
    subst ex
    obtain ⟨u, rfl, rx⟩ := r1.one
    cases rx
    show wpAny _ _ (evalAll ((do let v ← eval (.Name "sum" p2) X.env; standAt pos; pure v) :: (backToKw pos (keywordEach [⟨some "reverse", tv, kp2⟩] X.env)).map (·.2))) _ _ s1
    refine wpAny_evalAll_cons (wpAny_bind (ld_blt I1 hg2 hm2 boot_sum (wpAny_bind (wpAny_standAt (wpAny_pure ?_)))))
    show wpAny _ _ (evalAll ((do let v ← eval tv X.env; standAt pos; pure v) :: [])) _ _ s1
    refine wpAny_evalAll_cons (wpAny_bind (thn (hv.run pins s1 σ H1 (fun v H2 => v = .bl true ∧ H2 = H1) I1 ⟨rfl, rfl⟩) fun u2 s2 ⟨y, H2, I2, r2, ey, eH⟩ => wpAny_bind (wpAny_standAt (wpAny_pure (wpAny_evalAll_nil ?_)))))
    subst ey eH
    obtain rfl : u2 = Value.bool true := r2
    exact sort_sum hc hu I2 hd hk q
end
end KX
namespace KX
open PySem PySem.Spec PyProof.Rows L2
/-! ### {k: v for .. in ..}, the keys tuples -/
def tDcT (wi : TI) (g : TG) (tk tv : TE) (vs : List Nat) : TE := fun σ H Q => wi σ H fun J H1 => ∀ D, H1 D = none → ∃ W : Nat → Nat → Hp → Prop, (∃ m, W 0 m (upd H1 D (.dT []))) ∧ ∀ i m H, W i m H →
  (J.stop i H ∧ Q (.ref D) H) ∨ (J.go i H ∧ ∃ Nx : Hp → Prop, (∀ H', Nx H' → ∃ m', m' < m ∧ W (i + 1) m' H') ∧ ∀ x H', J.yld i H x H' → g x (wipe σ vs) H' fun σ2 H2 => wipe σ2 vs = wipe σ vs ∧
    tk σ2 H2 fun y H4 => tv σ2 H4 fun z H5 => ∃ (kvs : List (List L2.Key × V)) (k : List L2.Key) (b : Addr), y = .ref b ∧ H5 b = some (.tup (k.map kV)) ∧ H5 D = some (.dT kvs) ∧ kvs.length < sizeLine ∧ Nx (upd H5 D (.dT (putK kvs k z))))
section
variable {X : Cx} {kx vx tg iter : Expr} {scope : Scope} {own : List (Str × Nat)} {pos : Pos} {wi : TI} {g : TG} {tk tv : TE}
abbrev BX (X : Cx) (scope : Scope) (s : Shared) (H : Hp) (C : Addr) (cl : List (Str × Addr)) (fp : List Addr) : Cx := X.blk s H scope (compEnvC scope cl C X.env) fp
theorem pe_dcT (hc : X.calm = true) (hu : X.A.units < cLine) (hN : X.N.Nodup) (hi : PI X tg iter wi) (ok : BlkOk X.N X.env.scope scope own)
    (hg : ∀ (s : Shared) (H : Hp) (C : Addr) (cl : List (Str × Addr)) (fp : List Addr), PG (BX X scope s H C cl fp) tg g)
    (hk : ∀ (s : Shared) (H : Hp) (C : Addr) (cl : List (Str × Addr)) (fp : List Addr), PE (BX X scope s H C cl fp) kx tk)
    (hv : ∀ (s : Shared) (H : Hp) (C : Addr) (cl : List (Str × Addr)) (fp : List Addr), PE (BX X scope s H C cl fp) vx tv) (hs : ∀ x, foldedSetIterable iter X.env x = pure x := by intro _; rfl) :
    PE X (.DictComp kx vx [⟨tg, iter, [], 0⟩] scope pos) (tDcT wi g tk tv (own.map (·.2))) := by
  refine ⟨fun pins s σ H Q I h => ?_⟩
  rw [arm_eval_DictComp]
  have free : ∀ y ∈ scope.names, y.2 = .free → ∃ c, X.env.cells.lookup y.1 = some c := fun y hy e => (ok.free y hy e).elim (fun k => I.ok.has _ (.inl k)) fun k => I.ok.has _ (.inr k)
  refine wpAny_comprehension_free (use := none) rfl hs (closure_ok free) ok.kind (fun y hy e => by rw [ok.uniq y hy, e]) (thn (hi.run pins s σ H _ I h) fun xv s1 hx => thn hx fun itv s2 ⟨it, fp, tn, J, H2, e, I2, T, st2, f2, q⟩ => ?_)
  subst e
  refine wpAny_newObj_type (newEnv_comp ?_)
  have hDn : H2 s2.heap.objs.size = none := I2.hok.fresh (Nat.le_refl _)
  obtain ⟨W, ⟨m0, w0⟩, turn⟩ := q _ hDn
  generalize hD : s2.heap.objs.size = D at hDn w0 turn ⊢
  -- behind the new dict
  have I3 : L2.Inv X pins σ (upd H2 D (.dT [])) { s2 with heap := s2.heap.push { cls := .type "dict", data := .dict #[] } } := by
    subst hD
    exact I2.laid (t' := s2.toks) (fun b o e => Heap.get?_push_of_some _ e) (Nat.le_refl _) (dt_empty s2.heap I2.big)
  generalize hs3 : ({ s2 with heap := s2.heap.push { cls := .type "dict", data := .dict #[] } } : Shared) = s3 at I3 ⊢
  have h3 : s3.heap = s2.heap.push { cls := .type "dict", data := .dict #[] } := by rw [← hs3]
  have f3 : ∀ b ∈ fp, FpOk X pins (upd H2 D (.dT [])) b ∧ b < s3.heap.objs.size := fun b hb => by
    obtain ⟨o, e, _⟩ := T.obj _ _ st2 b hb
    have hlt := Heap.lt_size e
    obtain ⟨g1, g2⟩ := f2 b hb
    exact ⟨⟨by rw [upd_ne (by rw [← hD]; exact Nat.ne_of_lt hlt)]; exact g1, g2⟩, by rw [h3, Heap.size_push]; exact Nat.lt_succ_of_lt hlt⟩
  have I4 := block_start I3 ok hN f3
  have cl0 := cellsFrom (s3.heap.objs.size + 1) scope.names (cloFrom X.env.cells scope.names [])
  have pg := hg s3 (upd H2 D (.dT [])) s3.heap.objs.size (cellsFrom (s3.heap.objs.size + 1) scope.names (cloFrom X.env.cells scope.names [])) fp
  have pk := hk s3 (upd H2 D (.dT [])) s3.heap.objs.size (cellsFrom (s3.heap.objs.size + 1) scope.names (cloFrom X.env.cells scope.names [])) fp
  have pv := hv s3 (upd H2 D (.dT [])) s3.heap.objs.size (cellsFrom (s3.heap.objs.size + 1) scope.names (cloFrom X.env.cells scope.names [])) fp
  show codeAny _ _ (.compStart (.DictComp kx vx [⟨tg, iter, [], 0⟩] scope pos) 0 (.ref it) (.ref D) (compEnvC scope (cellsFrom (s3.heap.objs.size + 1) scope.names (cloFrom X.env.cells scope.names [])) s3.heap.objs.size X.env)) _ { s3 with heap := pushCells (s3.heap.push { cls := .type "dict", data := .dict #[] }) scope.names }
  have nfp : ∀ b ∈ fp, (upd H2 D (.dT [])) b = none := fun b hb => (f3 b hb).1.1
  unfold BX at pg pk pv
  generalize hce : compEnvC scope (cellsFrom (s3.heap.objs.size + 1) scope.names (cloFrom X.env.cells scope.names [])) s3.heap.objs.size X.env = ce at I4 pg pk pv ⊢
  have cL : ce.locals = s3.heap.objs.size := by subst hce; rfl
  generalize upd H2 D (.dT []) = H3 at I3 I4 pg pk pv w0 nfp f3
  generalize hs4 : ({ s3 with heap := pushCells (s3.heap.push { cls := .type "dict", data := .dict #[] }) scope.names } : Shared) = s4 at I4 ⊢
  have st4 : tn 0 s4.heap := T.keep _ _ _ st2 fun b _ o e => by
    rw [← hs4]
    refine pushCells_keeps _ _ _ _ (Heap.get?_push_of_some _ ?_)
    rw [h3]
    exact Heap.get?_push_of_some _ e
  have stat : ∀ {σ' : L2.St} {H' : Hp} {s' : Shared}, L2.Inv (X.blk s3 H3 scope ce fp) [] σ' H' s' → (∀ b ∈ fp, H' b = none) → ∀ b ∈ fp, FpOk (X.blk s3 H3 scope ce fp) [] H' b := fun I' hn b hb =>
    ⟨hn b hb, (I'.ok.exf b hb).1, I'.ok.exfs b hb, .inl hb, fun x c e => (I'.ok.exf b hb).2 x c e, fun p hp => absurd (show p ∈ ([] : List (Addr × Obj)) ++ [] from hp) (by simp)⟩
  refine codeAny_compStart_dict ?loop (T.self X.A 0 _ _ _ st4 ?loop)
  refine compLoop_anyD (fun n s' => ∃ i H', L2.Inv (X.blk s3 H3 scope ce fp) [] (wipe σ (own.map (·.2))) H' s' ∧ tn i s'.heap ∧ (∀ b ∈ fp, H' b = none) ∧ W i n H') ?_ m0 ⟨0, H3, I4, st4, nfp, w0⟩
  rintro n s5 ⟨i, H5, I5, st5, n5, w5⟩
  rcases turn i n H5 w5 with ⟨stop, qq⟩ | ⟨go, Nx, hNx, step⟩
  · refine thnF (T.done (X.blk s3 H3 scope ce fp) rfl rfl rfl hc i [] s5 _ H5 (fun _ _ => False) I5 (stat I5 n5) st5 stop) fun r s6 ⟨hr, I6⟩ => ?_
    subst hr
    have I7 : L2.Inv X pins σ H5 s6 := I3.call' (ch := fp) I6.os I6.base I6.hok I6.bare fun b hb => ⟨(f3 b hb).1.2.2.2.1, (f3 b hb).1.2.1, (f3 b hb).1.2.2.2.2.1, (f3 b hb).1.2.2.2.2.2⟩
    have nC : H5 s3.heap.objs.size = none := by
      have z : H5 ce.locals = none := I6.free
      rw [cL] at z
      exact z
    obtain ⟨m, hn, _⟩ := I6.loc
    have hn : s6.heap.Ns ce.locals m := hn
    rw [cL] at hn
    obtain ⟨f0, f1, f2', f3', f4, f5⟩ := I3.fpOk (Nat.le_refl _) nC
    exact ⟨m, hn, fun h'' sb => ⟨.ref D, H5, I7.turned (t' := s6.toks) (fun b o hb e => (sb.2 b hb).trans e) f0 f1 f3' f4 f5, rfl, qq⟩⟩
  · refine thnF (T.item (X.blk s3 H3 scope ce fp) rfl rfl rfl hc i [] s5 _ H5 (fun _ _ => False) I5 (stat I5 n5) st5 go) fun r s6 ⟨u, hr, h6⟩ => ?_
    subst hr
    refine thnF h6 fun _ s7 ⟨x, H7, I7, r7, y7, st7, n7⟩ => ?_
    refine thnF (pg.run _ s7 _ H7 x u _ (I7.pinned (stat I7 n7) (T.obj _ _ st7)) r7 (step x H7 y7)) fun _ s8 ⟨σ8, H8, I8, hw8, q8⟩ => ?_
    refine thnF ((pts_nil (X := X.blk s3 H3 scope ce fp)).run _ s8 σ8 H8 (fun b H9 => b = true ∧ H9 = H8) I8 ⟨rfl, rfl⟩) fun b s9 ⟨H9, I9, eb, eH9⟩ => ?_
    subst eb eH9
    show wpAny _ _ (eval kx ce) _ _ s9
    refine thnF (pk.run _ s9 σ8 _ _ I9 q8) fun z s10 ⟨yk, H10, I10, r10, q10⟩ => ?_
    refine thnF (pv.run _ s10 σ8 H10 _ I10 q10) fun z2 s11 ⟨yv, H11, I11, r11, kvs, k, kb, ek, hkb, hD11, hz11, nx⟩ => ?_
    subst ek
    obtain rfl : z = Value.ref kb := r10
    refine dt_set (X := X.blk s3 H3 scope ce fp) hu I11 hD11 hkb hz11 r11 fun s12 I12 => ?_
    obtain ⟨m', hm, w'⟩ := hNx _ nx
    have pin' : ∀ b ∈ fp, ∀ o, s7.heap.get? b = some o → s12.heap.get? b = some o ∧ (upd H11 D (.dT (putK kvs k yv))) b = none := fun b hb o e =>
      let z := I12.pin (b, o) (List.mem_append_right _ (List.mem_append_right _ (mem_pinsAt hb e)))
      ⟨z.1, z.2.1⟩
    have hl : (wipe σ (own.map (·.2))).length = σ8.length := by rw [← hw8, wipe_length]
    refine ⟨m', hm, i + 1, _, (I12.unpinned (pins := [])).weak hl (fun j v e => ?_), T.keep _ _ _ st7 fun b hb o e => (pin' b hb o e).1, fun b hb => ?_, w'⟩
    · rw [← hw8] at e
      exact (wipe_some e).1
    · obtain ⟨o, e, _⟩ := T.obj _ _ st7 b hb
      exact (pin' b hb o e).2
end
end KX
namespace KX
open PySem PySem.Spec PyProof.Rows L2
/-! ### dicts whose keys are tuples of ints -/
def kT (h : List Int) : List L2.Key := h.map Sum.inl
theorem kT_kV (h : List Int) : (kT h).map kV = h.map V.int := by
  unfold kT
  rw [List.map_map]
  rfl
theorem kT_inj {a b : List Int} (h : kT a = kT b) : a = b := by
  have := congrArg (List.map fun k : L2.Key => match k with
    | .inl i => i
    | .inr _ => 0) h
  unfold kT at this
  rw [List.map_map, List.map_map] at this
  simpa [Function.comp_def] using this
def kvsOf (l : List (List Int × V)) : List (List L2.Key × V) := l.map fun p => (kT p.1, p.2)
theorem kvs_none {h : List Int} : ∀ {l : List (List Int × V)}, h ∉ l.map (·.1) → valV (kvsOf l) (kT h) = none
  | [], _ => rfl
  | p :: l, n => by
    rw [List.map_cons, List.mem_cons] at n
    unfold kvsOf
    rw [List.map_cons, valV_neg (fun e => n (.inl (kT_inj e).symm))]
    exact kvs_none fun z => n (.inr z)
theorem kvs_some {h : List Int} {v : V} : ∀ {l : List (List Int × V)}, (l.map (·.1)).Nodup → (h, v) ∈ l → valV (kvsOf l) (kT h) = some v
  | [], _, m => nomatch m
  | p :: l, nd, m => by
    rw [List.map_cons, List.nodup_cons] at nd
    unfold kvsOf
    rcases List.mem_cons.mp m with e | m
    · rw [List.map_cons, valV_pos (by rw [← e]), ← e]
    · rw [List.map_cons, valV_neg (fun e => nd.1 (by
        rw [show p.1 = h from kT_inj e]
        exact List.mem_map.mpr ⟨_, m, rfl⟩))]
      exact kvs_some nd.2 m
theorem kvs_put {h : List Int} {v : V} {l : List (List Int × V)} (n : h ∉ l.map (·.1)) : putK (kvsOf l) (kT h) v = kvsOf (l ++ [(h, v)]) := by
  rw [putK_new v (kvs_none n)]
  unfold kvsOf
  rw [List.map_append]
  rfl
theorem kvs_ints (l : List (List Int × V)) : IntKeys (kvsOf l) := fun kv h => by
  obtain ⟨p, _, rfl⟩ := List.mem_map.mp h
  exact ⟨p.1, rfl⟩
theorem kvs_len (l : List (List Int × V)) : (kvsOf l).length = l.length := List.length_map ..
def Ent {γ : Type} (S : Rel γ) (H : Hp) (a : List Int × V) (b : List Int × γ) : Prop := a.1 = b.1 ∧ S H a.2 b.2
/-- a dict's entries -/
def DAt {γ : Type} (H : Hp) (p : Addr) (S : Rel γ) (l : List (List Int × γ)) : Prop := ∃ vs, H p = some (.dT (kvsOf vs)) ∧ Paired (Ent S H) vs l
theorem ent_keys {γ : Type} {S : Rel γ} {H : Hp} : ∀ {vs : List (List Int × V)} {l : List (List Int × γ)}, Paired (Ent S H) vs l → vs.map (·.1) = l.map (·.1)
  | _, _, .nil => rfl
  | _, _, .cons r t => by rw [List.map_cons, List.map_cons, r.1, ent_keys t]
theorem Ex.dat {γ : Type} {S : Rel γ} [Mo S] {M : Ads} {D : Option Addr} {H H' : Hp} {p : Addr} {l : List (List Int × γ)} (e : Ex M D H H') (hm : ¬ M p) (hd : D ≠ some p) (h : DAt H p S l) : DAt H' p S l := by
  obtain ⟨vs, h1, h2⟩ := h
  exact ⟨vs, e.keep _ _ hm hd h1, paired_mono (fun _ _ w => ⟨w.1, e.mo w.2⟩) h2⟩
/-- a tuple of ints is a key -/
theorem hp_key {H : Hp} {v : V} {h : List Int} (r : RHp H v h) : ∃ b, v = .ref b ∧ H b = some (.tup ((kT h).map kV)) := by
  obtain ⟨b, xs, e, h1, h2⟩ := r
  exact ⟨b, e, by rw [kT_kV, h1, paired_ints h2]⟩
section
variable {K : PySem.W.Frag} {M : Ads} {D : Option Addr} {σ : L2.St} {H H0 Hb H' : Hp} {ta tb tc te tk tv : TE} {α β γ : Type} {R : Rel α} {S : Rel γ} {B : Ends} {tz tu : TS} {q : Addr}
/-- what is walked, one of those told -/
def EvIx (M : Ads) (D : Option Addr) (wi : TI) (σ : L2.St) (H : Hp) (Px : List α → Prop) (R : Rel α) : Prop := ∀ H1, Ex M D H H1 → ∀ Q : It → Hp → Prop, (∀ J H2 xs, Ex M0 D H1 H2 → Px xs → WalkX M D J H2 xs R → Q J H2) → wi σ H1 Q
/-- {k: v for .. in ..} -/
theorem en_dcTX [Mo S] {wi : TI} {g : TG} {vs : List Nat} {Px : List α → Prop} (key : α → List Int) (val : α → γ) (hI : EvIx M none wi σ H Px R) (hzn : ∀ xs, Px xs → xs.length < 100000 ∧ (xs.map key).Nodup)
    (hs : ∀ xs, Px xs → ∀ (i : Nat) x a H', xs[i]? = some a → Ex M none H H' → R H' x a → ∃ σ2, Tgt g vs σ H' x σ2 ∧ EvR M none tk σ2 H' RHp (key a) ∧ EvR M none tv σ2 H' S (val a)) :
    EvN M none (tDcT wi g tk tv vs) σ H fun p H' => ∃ xs, Px xs ∧ DAt H' p S (xs.map fun a => (key a, val a)) := fun H1 e Q q =>
  hI H1 e _ fun J H2 xs e2 px w p hp => by
    obtain ⟨hz, nd⟩ := hzn xs px
    have hs := hs xs px
    have e12 : Ex M none H H2 := e.then e2
    refine ⟨fun i m H' => m = xs.length - i ∧ i ≤ xs.length ∧ Ex M none H2 H' ∧ Ex M0 none H2 H' ∧ DAt H' p S ((xs.take i).map fun a => (key a, val a)), ⟨xs.length, by omega, Nat.zero_le _, (Ex.refl e12.good).new hp, (Ex.refl e12.good.m0).new hp, [], upd_same, .nil⟩, ?_⟩
    rintro i m H' ⟨rfl, hi, e3, e30, hl⟩
    by_cases hlt : i < xs.length
    · refine .inr ⟨w.goes i H' hlt e3, fun H'' => Ex M none H2 H'' ∧ Ex M0 none H2 H'' ∧ DAt H'' p S ((xs.take (i + 1)).map fun a => (key a, val a)), fun H'' ⟨a1, a2, a3⟩ => ⟨xs.length - (i + 1), by omega, rfl, hlt, a1, a2, a3⟩, fun x H4 hy => ?_⟩
      obtain ⟨e4, a, hxa, r⟩ := w.yields i H' x H4 hlt e3 hy
      have e5 : Ex M none H H4 := (e12.trans e3).then e4
      obtain ⟨σ2, tg, hk, hv⟩ := hs i x a H4 hxa e5 r
      refine tg.run _ ⟨tg.back, hk H4 (Ex.refl e5.good) _ fun y H5 e6 ry => hv H5 ((Ex.refl e5.good).then e6) _ fun z H6 e7 rz => ?_⟩
      obtain ⟨us, h1, h2⟩ := (e4.trans (e6.trans e7)).dat (fun z => z) (fun z => nomatch z) hl
      obtain ⟨b, eb, hb⟩ := hp_key (e7.mo ry)
      have hnew : key a ∉ us.map (·.1) := fun hm => by
        rw [ent_keys h2, List.map_map] at hm
        obtain ⟨a', ha', e9⟩ := List.mem_map.mp hm
        obtain ⟨j, hj⟩ := List.mem_iff_getElem?.mp ha'
        rw [List.getElem?_take] at hj
        split at hj
        case isFalse => cases hj
        rename_i hjl
        have k1 : (xs.map key)[j]? = some (key a) := by rw [List.getElem?_map, hj]; exact congrArg some e9
        have k2 : (xs.map key)[i]? = some (key a) := by rw [List.getElem?_map, hxa]; rfl
        have := (List.getElem?_inj (List.getElem?_eq_some_iff.mp k1).1 nd).mp (k1.trans k2.symm)
        omega
      have hul : us.length ≤ i := by
        have := Paired.length h2
        rw [this, List.length_map, List.length_take]
        omega
      have e8 : Ex M0 none H2 H6 := (e30.trans e4).trans (e6.trans e7)
      have e9 : Ex M none H2 H6 := (e3.then e4).then (e6.trans e7)
      refine ⟨kvsOf us, kT (key a), b, eb, hb, h1, sz_lt (by rw [kvs_len]; omega), ?_⟩
      rw [kvs_put hnew]
      have tk : Sta H6 (upd H6 p (.dT (kvsOf (us ++ [(key a, z)])))) := Sta.put h1 rfl (fun z => nomatch z)
      refine ⟨e9.putF hp h1 rfl (fun z => nomatch z), e8.putF hp h1 rfl (fun z => nomatch z), us ++ [(key a, z)], upd_same, ?_⟩
      rw [take_step hxa, List.map_append]
      have h2' : Paired (Ent S (upd H6 p (.dT (kvsOf (us ++ [(key a, z)]))))) us ((xs.take i).map fun a => (key a, val a)) := paired_mono (fun _ _ w => ⟨w.1, Mo.mono tk w.2⟩) h2
      exact Paired.snoc h2' ⟨rfl, Mo.mono tk rz⟩
    · have ei : i = xs.length := by omega
      subst ei
      rw [List.take_length] at hl
      exact .inl ⟨w.stops H' e3, q p H' (e2.there p hp) (e2.trans e30) ⟨xs, px, hl⟩⟩
theorem en_dcT [Mo S] {wi : TI} {g : TG} {vs : List Nat} {xs : List α} (key : α → List Int) (val : α → γ) (hI : EvI M none wi σ H xs R) (hz : xs.length < 100000) (nd : (xs.map key).Nodup)
    (hs : ∀ (i : Nat) x a H', xs[i]? = some a → Ex M none H H' → R H' x a → ∃ σ2, Tgt g vs σ H' x σ2 ∧ EvR M none tk σ2 H' RHp (key a) ∧ EvR M none tv σ2 H' S (val a)) :
    EvN M none (tDcT wi g tk tv vs) σ H fun p H' => DAt H' p S (xs.map fun a => (key a, val a)) := fun H1 e Q q =>
  en_dcTX (S := S) (Px := fun ys => ys = xs) key val (fun H1 e Q q => hI H1 e Q fun J H2 e2 w => q J H2 xs e2 rfl w) (fun ys h => by rw [h]; exact ⟨hz, nd⟩) (fun ys h => by rw [h]; exact hs) H1 e Q fun p H2 hn e2 ⟨ys, h1, h2⟩ => q p H2 hn e2 (by rw [h1] at h2; exact h2)
theorem f_forX {wi : TI} {g : TG} {Px : List α → Prop} {Bk Nx : L2.St → Hp → Prop} {Rt : VK} {Ct0 : L2.St → Hp → Prop} (e : Ex M D H0 H) (hI : EvIx M D wi σ H0 Px R) (Pv : List α → Nat → L2.St → Hp → Prop) (h0 : ∀ xs, Px xs → Pv xs 0 σ H) (hm : ∀ xs i σ' H' H'', Pv xs i σ' H' → Ex M0 D H' H'' → Pv xs i σ' H'')
    (hs : ∀ xs, Px xs → ∀ (i : Nat) x a σ' H', xs[i]? = some a → Ex M D H H' → R H' x a → Pv xs i σ' H' → ∀ N : L2.St → Hp → Prop, (∀ σ3 H3, Ex M D H' H3 → Pv xs (i + 1) σ3 H3 → N σ3 H3) → g x σ' H' fun σ2 H2 => tu { nx := N, rt := Rt, ct := N, bk := Nx } σ2 H2)
    (hd : ∀ xs, Px xs → ∀ σ' H', Ex M D H H' → Pv xs xs.length σ' H' → Nx σ' H') : tFor wi g tu { nx := Nx, rt := Rt, bk := Bk, ct := Ct0 } σ H := hI H e _ fun J H2 xs e2 px w => by
  have e12 : Ex M D H H2 := (Ex.refl e.good).then e2
  refine ⟨fun i m σ' H' => m = xs.length - i ∧ i ≤ xs.length ∧ Ex M D H2 H' ∧ Pv xs i σ' H', ⟨xs.length, by omega, Nat.zero_le _, Ex.refl e12.good, hm _ _ _ _ _ (h0 xs px) e2⟩, ?_⟩
  rintro i m σ' H' ⟨rfl, hi, e3, pv⟩
  by_cases hlt : i < xs.length
  · refine .inr ⟨w.goes i H' hlt e3, fun σ3 H3 => Ex M D H2 H3 ∧ Pv xs (i + 1) σ3 H3, fun σ3 H3 ⟨a1, a2⟩ => ⟨xs.length - (i + 1), by omega, rfl, hlt, a1, a2⟩, fun x H4 hy => ?_⟩
    obtain ⟨e4, a, hxa, r⟩ := w.yields i H' x H4 hlt e3 hy
    have e24 : Ex M D H2 H4 := e3.then e4
    exact hs xs px i x a σ' H4 hxa (e12.trans e24) r (hm _ _ _ _ _ pv e4) _ fun σ3 H3 h1 h2 => ⟨e24.trans h1, h2⟩
  · have ei : i = xs.length := by omega
    subst ei
    exact .inl ⟨w.stops H' e3, hd xs px _ _ (e12.trans e3) pv⟩
theorem q_forX {wi : TI} {g : TG} {Px : List α → Prop} (e : Ex M D H0 H) (hI : EvIx M D wi σ H0 Px R) (Pv : List α → Nat → L2.St → Hp → Prop) (h0 : ∀ xs, Px xs → Pv xs 0 σ H) (hm : ∀ xs i σ' H' H'', Pv xs i σ' H' → Ex M0 D H' H'' → Pv xs i σ' H'')
    (hs : ∀ xs, Px xs → ∀ (i : Nat) x a σ' H', xs[i]? = some a → Ex M D H H' → R H' x a → Pv xs i σ' H' → ∀ N : L2.St → Hp → Prop, (∀ σ3 H3, Ex M D H' H3 → Pv xs (i + 1) σ3 H3 → N σ3 H3) → g x σ' H' fun σ2 H2 => tu { nx := N, rt := B.rt, ct := N, bk := tz B } σ2 H2)
    (hd : ∀ xs, Px xs → ∀ σ' H', Ex M D H H' → Pv xs xs.length σ' H' → tz B σ' H') : tSeq (tFor wi g tu) tz B σ H := f_forX (Bk := B.bk) (Ct0 := B.ct) e hI Pv h0 hm hs hd
theorem live_new {p : Addr} (e : Ex M none H H') (hp : H' p = none) : ¬ M p := fun z => e.good.live p z hp
/-- a new list, one of those told -/
theorem ei_newX [Mo R] {Px : List α → Prop} (h : EvN M none te σ H fun p H' => ∃ xs, Px xs ∧ LAt H' p R xs) : EvIx M none (iList K te) σ H Px R := fun H1 e Q q =>
  h H1 e _ fun p H2 hn e2 ⟨xs, px, ys, h1, pr⟩ => ⟨p, rfl, ⟨ys, SqL.of h1⟩, q _ H2 xs e2 px (wx_lst (SqL.of h1) (live_new e hn) (fun z => nomatch z) pr)⟩
/-- the keys of a dict, tracked -/
theorem keys_lat {H : Hp} {us : List (List Int × V)} : ∀ {bs : List Addr}, IsKeys H (kvsOf us) bs → Paired (RHp H) (bs.map V.ref) (us.map (·.1)) := by
  induction us with
  | nil =>
    intro bs h
    cases h
    exact .nil
  | cons p us ih =>
    intro bs h
    cases h with
    | cons r t =>
      refine .cons ⟨_, _, rfl, r, ?_⟩ (ih t)
      rw [show (kT p.1).map kV = p.1.map V.int from kT_kV p.1]
      exact ints_paired _
theorem perm_lat {F : V → α → Prop} {xs ys : List V} (hp : ys.Perm xs) : ∀ {l : List α}, Paired F xs l → ∃ l', l'.Perm l ∧ Paired F ys l' := by
  induction hp with
  | nil => intro l h; exact ⟨l, List.Perm.refl _, h⟩
  | cons x _ ih =>
    intro l h
    cases h with
    | cons r t =>
      obtain ⟨l', h1, h2⟩ := ih t
      exact ⟨_ :: l', h1.cons _, .cons r h2⟩
  | swap x y l0 =>
    intro l h
    cases h with
    | cons r t =>
      cases t with
      | cons r2 t2 => exact ⟨_ :: _ :: _, List.Perm.swap _ _ _, .cons r2 (.cons r t2)⟩
  | trans _ _ ih1 ih2 =>
    intro l h
    obtain ⟨l1, h1, h2⟩ := ih2 h
    obtain ⟨l2, h3, h4⟩ := ih1 h2
    exact ⟨l2, h3.trans h1, h4⟩
/-- sorted(d, key=sum, reverse=True) -/
theorem en_sortSum {l : List (List Int × γ)} (h : EvN M none te σ H fun p H' => DAt H' p S l) : EvN M none (tSortSum te) σ H fun p H' => ∃ hs, hs.Perm (l.map (·.1)) ∧ LAt H' p RHp hs := fun H1 e Q q =>
  h H1 e _ fun d H2 hn e2 ⟨us, h1, h2⟩ => ⟨d, kvsOf us, rfl, .inl h1, kvs_ints us, fun p bs bs' hp hk hperm => by
    obtain ⟨l', k1, k2⟩ := perm_lat (hperm.map V.ref) (keys_lat hk)
    rw [ent_keys h2] at k1
    have ex := e2.new (o := .lst (bs'.map V.ref)) hp
    exact q p _ (e2.there p hp) ex ⟨l', k1, _, upd_same, paired_mono (fun _ _ w => Mo.mono (R := RHp) (Sta.new hp) w) k2⟩⟩
end
variable {P : Program} {w : World} {K : PySem.W.Frag} {mg : Str → Option Value} {base : PySem.Heap} {A : Nat → Addr} {F : Nat → FuncData}
def sp_greatest_of : Sp := sn1 (RLs RHp) (fun hs => hs.Nodup ∧ hs.length < 90000 ∧ ∀ h ∈ hs, h.length < 1000) fun hs p H' => ∃ G : List (List Int), LAt H' p RHp G ∧ G.Nodup ∧ (∀ h ∈ G, h ∈ hs) ∧ ∀ h ∈ hs, h ∈ G ∨ ∃ o ∈ G, KM.holdsB o h = true
theorem ok_greatest_of (T : Prog K mg A F) : FnOk P w K mg base CX0 2 (A 29) (F 29) ["heaps"] sp_greatest_of := by
  have G_holds_in := ok_holds_in (P := P) (w := w) (base := base) T
  have sc := sc_greatest_of
  refine T.d_greatest_of.ok sc_greatest_of (fun vs H Q E h => ?_) (fun cdv _ outer s H vs Q E hr h => ?_)
  · obtain ⟨_, _, rfl, _⟩ := h
    rfl
  · obtain ⟨v, hs, rfl, ⟨hp, rfl, lh⟩, ⟨nd, hz, hl⟩, q⟩ := h
    refine ⟨_, (pss_cons (ps_set (i := 1) sc.nd rfl (.inl rfl) (pe_lst pa_nil))
      (pss_cons (ps_for PassesOwn.never rfl (k_piL K rfl (pe_sortSum rfl (Nat.lt_of_le_of_lt (Nat.add_le_add_left (by decide : 3 ≤ 64) _) hr.units) (by rfl) T.sorted (by rfl) T.sum (pe_dcT (own := [("one", 3)]) (g := gName 3) rfl (Nat.lt_of_le_of_lt (Nat.le_add_right _ 64) hr.units) sc.nd (k_piL K rfl (pv 0)) (blkOk_by (N := N_greatest_of) (sc := defScope s_greatest_of) (by decide +kernel)) (fun _ _ _ _ _ => (pg_name (i := 3) sc.nd rfl (.inl rfl))) (fun _ _ _ _ _ => (pv 3)) (fun _ _ _ _ _ => pe_bl)) pe_bl)) (pg_name (i := 2) sc.nd rfl (.inr rfl)) (pss_one (ps_if (pt_not (pt_val (pe_callB (k_any K rfl rfl) (by rfl) T.any (by decide +kernel) (pa_cons (pe_lc (own := [("other", 4)]) (g := gName 4) (tt := tYes) rfl sc.nd (k_piL K rfl (pv 1)) (blkOk_by (N := N_greatest_of) (sc := defScope s_greatest_of) (by decide +kernel)) (fun _ _ _ _ _ => (pg_name (i := 4) sc.nd rfl (.inl rfl))) (fun _ _ _ _ _ => pts_nil) (fun _ _ _ _ _ => (pe_call G_holds_in (hr.mono (by decide)) (by rfl) T.d_holds_in.at_ T.d_holds_in.fn.kp T.d_holds_in.bi .nil pass0 (pa_cons (pv 4) (pa_cons (pv 2) pa_nil))))) pa_nil)))) (pss_one (ps_expr (pe_bm PySem.F.plainAttrs_list PySem.F.slot_list_append PySem.F.type_list_append mt_append (pv 1) (pa_cons (pv 2) pa_nil)))) pss_nil)))
      (pss_one (ps_ret (pv 1))))), ?_⟩
    refine q_new e00 (el_nil (R := RHp)) fun f H1 hn e1 lf => ?_
    have g1 := good1 (lat_some lf)
    have lh1 : LAt H1 hp RHp hs := e1.lat (fun z => z) (fun z => nomatch z) lh
    have hpf : hp ≠ f := fun e => lat_some lh (by rw [e]; exact hn)
    refine q_forX (R := RHp) (Px := fun xs => xs.Perm hs) (Ex.refl g1) (ei_newX ?_) (fun xs i σ' H' => (∃ a b c, σ' = [some (.ref hp), some (.ref f), a, b, c]) ∧ ∃ G : List (List Int), LAt H' f RHp G ∧ G.Nodup ∧ (∀ h ∈ G, h ∈ xs.take i) ∧ ∀ h ∈ xs.take i, h ∈ G ∨ ∃ o ∈ G, KM.holdsB o h = true) ?_ ?_ ?_ ?_
    · have key := en_sortSum (en_dcT (M := fun a => a = f) (σ := [some (.ref hp), some (.ref f), none, none, none]) (H := H1) (tk := tVar 3) (tv := tC (.bl true)) (g := gName 3) (vs := [3]) (S := RB) (fun h : List Int => h) (fun _ => true) (ei_lst (K := K) (R := RHp) (ev_var (i := 0) rfl) lh1 hpf (fun z => nomatch z)) (by omega) (by rw [List.map_id']; exact nd) fun i x a H' hx e r => tg_name (fun _ => rfl) ⟨er_var rfl r, er_bl⟩)
      intro H2 e2 Q qq
      refine key H2 e2 Q fun p H3 h1 h2 ⟨xs, h3, h4⟩ => qq p H3 h1 h2 ⟨xs, ?_, h4⟩
      rw [List.map_map] at h3
      simpa [Function.comp_def] using h3
    · exact fun xs px => ⟨⟨_, _, _, rfl⟩, [], lf, List.nodup_nil, (fun _ h => nomatch h), fun _ h => by simp at h⟩
    · exact fun xs i σ' H' H'' ⟨h1, G, h2, h3⟩ e => ⟨h1, G, e.lat (fun z => z) (fun z => nomatch z) h2, h3⟩
    · rintro xs px i u hh σ' H' hx e r ⟨⟨a, b, c, rfl⟩, G, lg, gn, gs, gall⟩ N hN
      have hmem : hh ∈ hs := px.mem_iff.mp (List.mem_of_getElem? hx)
      have nd' : xs.Nodup := px.nodup_iff.mpr nd
      have hnew : hh ∉ xs.take i := fun h => by
        obtain ⟨j, hj⟩ := List.mem_iff_getElem?.mp h
        rw [List.getElem?_take] at hj
        split at hj
        case isFalse => cases hj
        have := (List.getElem?_inj (List.getElem?_eq_some_iff.mp hj).1 nd').mp (hj.trans hx.symm)
        omega
      have gl : G.length ≤ i := by
        refine Nat.le_trans (List.Nodup.length_le_of_subset gn gs) ?_
        rw [List.length_take]
        omega
      have hil : i < hs.length := by rw [← px.length_eq]; exact (List.getElem?_eq_some_iff.mp hx).1
      have glen : ∀ o ∈ G, o.length < 1000 := fun o ho => hl o (px.mem_iff.mp (List.mem_of_mem_take (gs o ho)))
      refine s_when (M := M0) (D := none) (Ex.refl good0) (et_not (et_test (er_any (el_map (R := RHp) (S := RB) (fun o => KM.holdsB o hh) (ei_lst (ev_var rfl) lg (fun z => z) (fun z => nomatch z)) (by omega) fun j x o H'' hxo e3 ro => tg_name (fun _ => rfl) (ev_c2 (er_var rfl ro) (er_var rfl (e3.mo r)) ⟨glen o (List.mem_of_getElem? hxo), hl hh hmem⟩))))) (fun z H2 e2 => ?_) fun z H2 e2 => ?_
      · have lg2 := e2.lat (fun z => z) (fun z => nomatch z) lg
        refine ev_app (D := none) (M := fun a => a = f) (l := G) (a := hh) (ev_var rfl) lg2 (by omega) rfl (fun z => nomatch z) (e2.up e.good).good (er_var rfl (e2.mo r)) fun H3 e3 l3 => hN _ H3 ((e2.up e.good).trans e3) ⟨⟨_, _, _, rfl⟩, G ++ [hh], l3, ?_, ?_, ?_⟩
        · rw [List.nodup_append]
          exact ⟨gn, by simp, fun x hx y hy e9 => hnew (by rw [List.mem_singleton] at hy; rw [← hy, ← e9]; exact gs x hx)⟩
        · intro h hm
          rw [take_step hx]
          rcases List.mem_append.mp hm with m | m
          · exact List.mem_append_left _ (gs h m)
          · exact List.mem_append_right _ m
        · intro h hm
          rw [take_step hx] at hm
          rcases List.mem_append.mp hm with m | m
          · rcases gall h m with k | ⟨o, k1, k2⟩
            · exact .inl (List.mem_append_left _ k)
            · exact .inr ⟨o, List.mem_append_left _ k1, k2⟩
          · exact .inl (List.mem_append_right _ m)
      · refine hN _ H2 (e2.up e.good) ⟨⟨_, _, _, rfl⟩, G, e2.lat (fun z => z) (fun z => nomatch z) lg, gn, fun h hm => by rw [take_step hx]; exact List.mem_append_left _ (gs h hm), fun h hm => ?_⟩
        rw [take_step hx] at hm
        rcases List.mem_append.mp hm with m | m
        · exact gall h m
        · rw [List.mem_singleton.mp m]
          have z : (G.map fun o => KM.holdsB o hh).any id = true := by
            cases q0 : (G.map fun o => KM.holdsB o hh).any id with
            | true => rfl
            | false => rw [q0] at z; cases z
          rw [List.any_map, List.any_eq_true] at z
          exact .inr z
    · rintro xs px σ' H' e ⟨⟨a, b, c, rfl⟩, G, lg, gn, gs, gall⟩
      rw [List.take_length] at gs gall
      refine s_ret (Ex.refl good0) (ev_var rfl) fun v H2 e2 p => ?_
      rw [p]
      exact q f H2 hn ((back1 e1 hn e).trans e2.toSame) ⟨G, e2.lat (fun z => z) (fun z => nomatch z) lg, gn, fun h hm => px.mem_iff.mp (gs h hm), fun h hm => gall h (px.mem_iff.mpr hm)⟩
end KX
namespace KX
open PySem PySem.Spec PyProof.Rows L2
def hT (p : List Int) : Int := reduceHash (Builtin.Tuple.tupleHashOf (p.map hashInt))
theorem hT_eq (P : Program) (w : World) (p : List Int) : tupleKeyHash (mixKind P w) (kT p) = hT p := by
  unfold tupleKeyHash kT hT
  rw [List.map_map]
  rfl
/-- lists with at most n entries, each from 1 to r -/
def small : Nat → Nat → List (List Int)
  | 0, _ => [[]]
  | n + 1, r => [] :: (List.range r).flatMap fun (x : Nat) => (small n r).map fun p => ((x : Int) + 1) :: p
theorem mem_small {r : Nat} : ∀ {n : Nat} {p : List Int}, p.length ≤ n → (∀ x ∈ p, 1 ≤ x ∧ x ≤ (r : Int)) → p ∈ small n r
  | 0, p, h, _ => by
    rw [List.eq_nil_of_length_eq_zero (Nat.le_zero.mp h)]
    exact List.mem_singleton.mpr rfl
  | n + 1, [], _, _ => List.mem_cons_self ..
  | n + 1, x :: p, h, hx => by
    have h1 := hx x (List.mem_cons_self ..)
    refine List.mem_cons_of_mem _ (List.mem_flatMap.mpr ⟨x.toNat - 1, List.mem_range.mpr (by omega), List.mem_map.mpr ⟨p, mem_small (Nat.le_of_succ_le_succ h) fun y hy => hx y (List.mem_cons_of_mem _ hy), ?_⟩⟩)
    congr 1
    omega
def nodupB (l : List Int) : Bool := match l with
  | [] => true
  | x :: l => !l.contains x && nodupB l
theorem nodupB_ok : ∀ {l : List Int}, nodupB l = true → l.Nodup
  | [], _ => List.nodup_nil
  | x :: l, h => by
    unfold nodupB at h
    simp at h
    exact List.nodup_cons.mpr ⟨h.1, nodupB_ok h.2⟩
theorem hash1 : nodupB ((small 1 5).map hT) = true := by decide +kernel
theorem hash2 : nodupB ((small 2 4).map hT) = true := by decide +kernel
theorem hash3 : nodupB ((small 3 3).map hT) = true := by decide +kernel
theorem hash4 : nodupB ((small 4 2).map hT) = true := by decide +kernel
theorem hash5 : nodupB ((small 5 1).map hT) = true := by decide +kernel
end KX
namespace KX
open PySem PySem.Spec PyProof.Rows L2
/-! ### the small shapes -/
theorem nodup_inj {α β : Type} {f : α → β} : ∀ {l : List α}, (l.map f).Nodup → ∀ a ∈ l, ∀ b ∈ l, f a = f b → a = b
  | [], _, _, h, _, _, _ => nomatch h
  | x :: l, nd, a, ha, b, hb, e => by
    rw [List.map_cons, List.nodup_cons] at nd
    rcases List.mem_cons.mp ha with ea | ha'
    · rcases List.mem_cons.mp hb with eb | hb'
      · rw [ea, eb]
      · exact absurd (List.mem_map.mpr ⟨b, hb', by rw [← e, ea]⟩) nd.1
    · rcases List.mem_cons.mp hb with eb | hb'
      · exact absurd (List.mem_map.mpr ⟨a, ha', by rw [e, eb]⟩) nd.1
      · exact nodup_inj nd.2 a ha' b hb' e
theorem inj_nodup {α β : Type} {f : α → β} : ∀ {l : List α}, l.Nodup → (∀ a ∈ l, ∀ b ∈ l, f a = f b → a = b) → (l.map f).Nodup
  | [], _, _ => List.nodup_nil
  | x :: l, nd, h => by
    rw [List.nodup_cons] at nd
    rw [List.map_cons, List.nodup_cons]
    refine ⟨fun m => ?_, inj_nodup nd.2 fun a ha b hb => h a (List.mem_cons_of_mem _ ha) b (List.mem_cons_of_mem _ hb)⟩
    obtain ⟨y, hy, e⟩ := List.mem_map.mp m
    have := h y (List.mem_cons_of_mem _ hy) x (List.mem_cons_self ..) e
    rw [this] at hy
    exact nd.1 hy
structure TOk (T : List Int) : Prop where
  heap : KM.Heap T
  fit : ∃ n r : Nat, T.length ≤ n ∧ (∀ c, KM.hgt T c ≤ (r : Int)) ∧ 1 ≤ n ∧ n + r ≤ 6
theorem held_len {T p : List Int} (TH : KM.Heap T) (P : KM.Heap p) (h : KM.Held p T) : p.length ≤ T.length := by
  refine Nat.le_of_not_lt fun hlt => ?_
  have h1 := (P.len_iff T.length).mp hlt
  have h2 := h T.length
  rw [KM.hgt_ge T (Nat.le_refl _)] at h2
  omega
theorem TOk.len {T : List Int} (h : TOk T) : T.length ≤ 6 := by
  obtain ⟨n, r, h1, _, _, h2⟩ := h.fit
  omega
theorem TOk.small {T : List Int} (h : TOk T) : ∃ S : List (List Int), S.length ≤ 40 ∧ (S.map hT).Nodup ∧ ∀ p, KM.Heap p → KM.Held p T → p ∈ S := by
  obtain ⟨n, r, h1, h2, h3, h4⟩ := h.fit
  have key : ∀ p, KM.Heap p → KM.Held p T → p ∈ KX.small n (6 - n) := fun p P hp => by
    refine mem_small (Nat.le_trans (held_len h.heap P hp) h1) fun x hx => ?_
    obtain ⟨c, hc⟩ := List.mem_iff_getElem?.mp hx
    obtain ⟨hl, e⟩ := List.getElem?_eq_some_iff.mp hc
    have e2 : KM.hgt p c = x := by rw [KM.hgt_lt p hl, e]
    have := P.one hl
    have := hp c
    have := h2 c
    omega
  have hn : n = 1 ∨ n = 2 ∨ n = 3 ∨ n = 4 ∨ n = 5 ∨ n = 6 := by omega
  rcases hn with rfl | rfl | rfl | rfl | rfl | rfl
  · exact ⟨_, by decide +kernel, nodupB_ok hash1, key⟩
  · exact ⟨_, by decide +kernel, nodupB_ok hash2, key⟩
  · exact ⟨_, by decide +kernel, nodupB_ok hash3, key⟩
  · exact ⟨_, by decide +kernel, nodupB_ok hash4, key⟩
  · exact ⟨_, by decide +kernel, nodupB_ok hash5, key⟩
  · exact ⟨_, by decide +kernel, nodupB_ok (by decide +kernel), key⟩
/-- keys: heaps under T, each once -/
def KeysOk (T : List Int) (ks : List (List Int)) : Prop := ks.Nodup ∧ ∀ p ∈ ks, KM.Heap p ∧ KM.Held p T
theorem KeysOk.len {T : List Int} (h : TOk T) {ks : List (List Int)} (k : KeysOk T ks) : ks.length ≤ 40 := by
  obtain ⟨S, h1, _, h3⟩ := h.small
  exact Nat.le_trans (List.Nodup.length_le_of_subset k.1 fun p hp => h3 p (k.2 p hp).1 (k.2 p hp).2) h1
theorem KeysOk.hash {T : List Int} (h : TOk T) {ks : List (List Int)} (k : KeysOk T ks) : (ks.map hT).Nodup := by
  obtain ⟨S, _, h2, h3⟩ := h.small
  exact inj_nodup k.1 fun a ha b hb e => nodup_inj h2 a (h3 a (k.2 a ha).1 (k.2 a ha).2) b (h3 b (k.2 b hb).1 (k.2 b hb).2) e
theorem ord_pos {r : KM.Rg} (ok : KM.RgOk r) : 0 < KM.ord r := by
  have h1 := ok.two
  have a := Int.gcd_pos_of_ne_zero_left r.2 (a := r.1) (by omega)
  have b := Int.gcd_le_left r.2 (a := r.1) (by omega)
  unfold KM.ord
  exact Int.ediv_pos_of_pos_of_dvd (by omega) (by omega) (Int.gcd_dvd_left r.1 r.2)
/-! ### what tuples alone tell -/
class MoT {α : Type} (R : Rel α) : Prop where
  mono : ∀ {H H' : Hp} {v : V} {a : α}, (∀ b xs, H b = some (.tup xs) → H' b = some (.tup xs)) → R H v a → R H' v a
instance : MoT RI := ⟨fun _ h => h⟩
instance : MoT RN := ⟨fun _ h => h⟩
instance {α : Type} {R : Rel α} [MoT R] : MoT (RT R) := ⟨fun k ⟨a, xs, e, h, r⟩ => ⟨a, xs, e, k _ _ h, paired_mono (fun _ _ q => MoT.mono k q) r⟩⟩
instance {α β : Type} {R : Rel α} {S : Rel β} [MoT R] [MoT S] : MoT (RP R S) := ⟨fun k ⟨a, x, y, e, h, r, q⟩ => ⟨a, x, y, e, k _ _ h, MoT.mono k r, MoT.mono k q⟩⟩
theorem lock_tups {H : Hp} {d : Addr} {o u : HO} (hd : H d = some u) (nt : kd u ≠ 0) : ∀ b xs, H b = some (.tup xs) → (upd H d o) b = some (.tup xs) := fun b xs h => by
  rw [upd_ne (fun z => by rw [z, hd] at h; cases h; exact nt rfl)]
  exact h
theorem unlock_ex {M : Ads} {H H' : Hp} {d : Addr} {o u : HO} (g : Good M none H) (hd : H d = some u) (nt : kd u ≠ 0) (hm : ¬ M d) (e : Ex M none (upd H d o) H') : Ex M none H (upd H' d u) := by
  refine ⟨fun a v h1 _ h3 => ?_, ⟨fun a xs h => ?_, fun a v h => ?_⟩, fun a h => ?_, ⟨fun a h z => ?_, fun _ z => nomatch z⟩⟩
  · by_cases z : a = d
    · subst z; rw [upd_same, ← hd]; exact h3
    · rw [upd_ne z]; exact e.keep a v h1 (fun z => nomatch z) (by rw [upd_ne z]; exact h3)
  · have z : a ≠ d := fun z => by rw [z, hd] at h; cases h; exact nt rfl
    rw [upd_ne z]
    exact e.tups a xs (by rw [upd_ne z]; exact h)
  · by_cases z : a = d
    · subst z
      rw [hd] at h
      cases h
      exact ⟨u, upd_same, rfl⟩
    · obtain ⟨o', h1, h2⟩ := e.sta.kinds a v (by rw [upd_ne z]; exact h)
      exact ⟨o', by rw [upd_ne z]; exact h1, h2⟩
  · by_cases z : a = d
    · subst z; rw [upd_same] at h; cases h
    · rw [upd_ne z] at h
      have := e.there a h
      rw [upd_ne z] at this
      exact this
  · by_cases w : a = d
    · subst w; exact hm h
    · rw [upd_ne w] at z
      have := e.there a z
      rw [upd_ne w] at this
      exact g.live a h this
section
variable {K : PySem.W.Frag} {M : Ads} {D : Option Addr} {σ : L2.St} {H H0 Hb H' : Hp} {ta tb tc te tk tv td : TE} {α β γ : Type} {R : Rel α} {S : Rel γ} {B : Ends} {tz tu : TS} {q d a : Addr}
theorem dat_tups [MoT S] {l : List (List Int × γ)} (k : ∀ b xs, H b = some (.tup xs) → H' b = some (.tup xs)) (hd : H' a = H a) (h : DAt H a S l) : DAt H' a S l := by
  obtain ⟨vs, h1, h2⟩ := h
  exact ⟨vs, hd.trans h1, paired_mono (fun _ _ w => ⟨w.1, MoT.mono k w.2⟩) h2⟩
/-- for k in d, d locked -/
theorem ei_keysT {us : List (List Int × V)} {od : Obj} (ha : Ev M none td σ H fun v _ => v = .ref d) (hd : H d = some (.frz od (.dT (kvsOf us)))) (hm : ¬ M d) : EvI M none (iKeys td) σ H (us.map (·.1)) RHp := fun H1 e Q q =>
  ha H1 e _ fun v H2 e2 pv => by
    have hd2 := (e.then e2).keep _ _ hm (fun z => nomatch z) hd
    refine ⟨d, od, pv, .inr ⟨kvsOf us, hd2, q _ H2 e2 ⟨fun i H' hi e3 => ⟨e3.keep _ _ hm (fun z => nomatch z) hd2, by rw [kvs_len]; simpa using hi⟩, fun H' e3 => ⟨e3.keep _ _ hm (fun z => nomatch z) hd2, by rw [kvs_len]; simp⟩, fun i H' x H'' hi e3 y => ?_⟩⟩⟩
    obtain ⟨rfl, k, v, b, h1, rfl, h2⟩ := y
    unfold kvsOf at h1
    rw [List.getElem?_map] at h1
    obtain ⟨p, h3, h4⟩ := Option.map_eq_some_iff.mp h1
    cases h4
    refine ⟨Ex.refl e3.good.m0, p.1, by rw [List.getElem?_map, h3]; rfl, b, _, rfl, h2, ?_⟩
    rw [kT_kV]
    exact ints_paired _
/-- d[k] -/
theorem er_dget [Mo S] {us : List (List Int × V)} {p : List Int} {v : V} {x : γ} (ha : Ev M none ta σ H fun v _ => v = .ref d) (hb : EvR M none tb σ H RHp p) (hd : ∀ H', Ex M none H H' → Rd H' d (.dT (kvsOf us))) (nd : (us.map (·.1)).Nodup) (hv : (p, v) ∈ us) (hx : S H v x) : EvR M none (tDGet ta tb) σ H S x := fun H1 e Q q =>
  ha H1 e _ fun y H2 e2 py => hb H2 (e.then e2) _ fun z H3 e3 pz => by
    obtain ⟨b, eb, hb⟩ := hp_key pz
    have e13 := (e.then e2).then e3
    exact ⟨d, v, py, .inr ⟨kvsOf us, kT p, b, hd H3 e13, eb, hb, (kvs_some nd hv).symm⟩, q v H3 (e2.trans e3) (e13.mo hx)⟩
theorem dat_mem {l : List (List Int × γ)} {us : List (List Int × V)} {x : List Int × γ} (h : Paired (Ent S H) us l) (hx : x ∈ l) : ∃ v, (x.1, v) ∈ us ∧ S H v x.2 := by
  obtain ⟨j, hj⟩ := List.mem_iff_getElem?.mp hx
  obtain ⟨p, h1, h2, h3⟩ := paired_atR h hj
  exact ⟨p.2, by rw [← h2]; exact List.mem_of_getElem? h1, h3⟩
/-- what is walked, told of the heap where the walk starts -/
def EvIy (M : Ads) (D : Option Addr) (wi : TI) (σ : L2.St) (H : Hp) (Px : Hp → List α → Prop) (R : Rel α) : Prop := ∀ H1, Ex M D H H1 → ∀ Q : It → Hp → Prop, (∀ J H2 xs, Ex M0 D H1 H2 → Px H2 xs → WalkX M D J H2 xs R → Q J H2) → wi σ H1 Q
theorem f_forY {wi : TI} {g : TG} {Px : Hp → List α → Prop} {Bk Nx : L2.St → Hp → Prop} {Rt : VK} {Ct0 : L2.St → Hp → Prop} (e : Ex M D H0 H) (hI : EvIy M D wi σ H0 Px R) (Pv : List α → Nat → L2.St → Hp → Prop) (h0 : ∀ Hb xs, Ex M0 D H Hb → Px Hb xs → Pv xs 0 σ Hb) (hm : ∀ xs i σ' H' H'', Pv xs i σ' H' → Ex M0 D H' H'' → Pv xs i σ' H'')
    (hs : ∀ Hb xs, Ex M0 D H Hb → Px Hb xs → ∀ (i : Nat) x a σ' H', xs[i]? = some a → Ex M D Hb H' → R H' x a → Pv xs i σ' H' → ∀ N : L2.St → Hp → Prop, (∀ σ3 H3, Ex M D H' H3 → Pv xs (i + 1) σ3 H3 → N σ3 H3) → g x σ' H' fun σ2 H2 => tu { nx := N, rt := Rt, ct := N, bk := Nx } σ2 H2)
    (hd : ∀ Hb xs, Ex M0 D H Hb → Px Hb xs → ∀ σ' H', Ex M D Hb H' → Pv xs xs.length σ' H' → Nx σ' H') : tFor wi g tu { nx := Nx, rt := Rt, bk := Bk, ct := Ct0 } σ H := hI H e _ fun J H2 xs e2 px w => by
  have e12 : Ex M D H H2 := (Ex.refl e.good).then e2
  refine ⟨fun i m σ' H' => m = xs.length - i ∧ i ≤ xs.length ∧ Ex M D H2 H' ∧ Pv xs i σ' H', ⟨xs.length, by omega, Nat.zero_le _, Ex.refl e12.good, h0 H2 xs e2 px⟩, ?_⟩
  rintro i m σ' H' ⟨rfl, hi, e3, pv⟩
  by_cases hlt : i < xs.length
  · refine .inr ⟨w.goes i H' hlt e3, fun σ3 H3 => Ex M D H2 H3 ∧ Pv xs (i + 1) σ3 H3, fun σ3 H3 ⟨a1, a2⟩ => ⟨xs.length - (i + 1), by omega, rfl, hlt, a1, a2⟩, fun x H4 hy => ?_⟩
    obtain ⟨e4, a, hxa, r⟩ := w.yields i H' x H4 hlt e3 hy
    have e24 : Ex M D H2 H4 := e3.then e4
    exact hs H2 xs e2 px i x a σ' H4 hxa e24 r (hm _ _ _ _ _ pv e4) _ fun σ3 H3 h1 h2 => ⟨e24.trans h1, h2⟩
  · have ei : i = xs.length := by omega
    subst ei
    exact .inl ⟨w.stops H' e3, hd H2 xs e2 px _ _ e3 pv⟩
/-- d.setdefault(k, v) -/
theorem ev_setT [Mo S] {ty tx : TE} {l : List (List Int × γ)} {p : List Int} {x : γ} (ha : Ev M0 none td σ H fun v _ => v = .ref a) (hb : EvR M0 none ty σ H RHp p) (hc : EvR M0 none tx σ H S x) (hl : DAt H a S l) (hz : l.length < 100000) (nd : (l.map (·.1)).Nodup) (hm : M a) (g : Good M none H)
    (k : ∀ H3, Ex M none H H3 → (p ∈ l.map (·.1) → DAt H3 a S l) → (p ∉ l.map (·.1) → DAt H3 a S (l ++ [(p, x)])) → B.nx σ H3) : tDrop (tSetT td ty tx) B σ H :=
  ha H (Ex.refl g.m0) _ fun v1 H1 e1 p1 => by
    have l1 := e1.dat (fun z => z) (fun z => nomatch z) hl
    obtain ⟨us1, h1, _⟩ := l1
    refine ⟨a, p1, .inr ⟨_, .inl h1⟩, hb H1 e1 _ fun v2 H2 e2 p2 => hc H2 (e1.trans e2) _ fun v3 H3 e3 p3 => ?_⟩
    have e13 := (e1.trans e2).trans e3
    obtain ⟨us, h3, h4⟩ := e13.dat (fun z => z) (fun z => nomatch z) hl
    obtain ⟨b, eb, hb⟩ := hp_key (e3.mo p2)
    have nd' : (us.map (·.1)).Nodup := by rw [ent_keys h4]; exact nd
    refine ⟨kvsOf us, kT p, b, h3, eb, hb, sz_lt (by rw [kvs_len, Paired.length h4]; exact hz), fun v hv => ?_, fun hn => ?_⟩
    · have hin : p ∈ l.map (·.1) := Classical.byContradiction fun hno => by
        rw [← ent_keys h4] at hno
        rw [kvs_none hno] at hv
        cases hv
      exact k H3 (e13.up g) (fun _ => ⟨us, h3, h4⟩) fun hno => absurd hin hno
    · have hno : p ∉ us.map (·.1) := fun hin => by
        obtain ⟨z, hz1, hz2⟩ := List.mem_map.mp hin
        have : (p, z.2) ∈ us := by rw [← hz2]; exact hz1
        rw [kvs_some nd' this] at hn
        cases hn
      rw [kvs_put hno]
      have tk : Sta H3 (upd H3 a (.dT (kvsOf (us ++ [(p, v3)])))) := Sta.put h3 rfl (fun z => nomatch z)
      refine k _ ((e13.up g).put hm (fun z => nomatch z) h3 rfl (fun z => nomatch z)) (fun hin => absurd (by rw [ent_keys h4]; exact hin) hno) fun _ => ⟨us ++ [(p, v3)], upd_same, ?_⟩
      have h4' : Paired (Ent S (upd H3 a (.dT (kvsOf (us ++ [(p, v3)]))))) us l := paired_mono (fun _ _ w => ⟨w.1, Mo.mono tk w.2⟩) h4
      exact Paired.snoc h4' ⟨rfl, Mo.mono tk p3⟩
/-- l.append(e), e a new thing -/
theorem ev_appN {l : List V} {p : Addr} {PN : Addr → Hp → Prop} (hv : Ev M0 none ta σ H fun v _ => v = .ref p) (hl : H p = some (.lst l)) (hz : l.length < 100000) (hp : M p) (g : Good M none H) (h : EvN M0 none te σ H PN)
    (k : ∀ d H2, H d = none → Ex M0 none H H2 → PN d H2 → H2 p = some (.lst l) → Ex M none H (upd H2 p (.lst (l ++ [.ref d]))) → B.nx σ (upd H2 p (.lst (l ++ [.ref d])))) : tDrop (tBM K "list" rAppend ta (tCons te tNil)) B σ H := hv H (Ex.refl g.m0) _ fun x H1 e1 px => by
  have h1 := e1.keep _ _ (fun z => z) (fun z => nomatch z) hl
  subst px
  refine ⟨.inl ⟨rfl, l, SqL.of h1⟩, h H1 e1 _ fun d H2 hd e2 pn => ?_⟩
  have h2 := e2.keep _ _ (fun z => z) (fun z => nomatch z) h1
  exact ⟨p, l, .ref d, rfl, rfl, h2, sz_lt hz, k d H2 (e1.there d hd) (e1.trans e2) pn h2 (((e1.trans e2).up g).put hp (fun z => nomatch z) h2 rfl (fun z => nomatch z))⟩
/-- l[-1] -/
theorem ev_last {l : List V} {x : V} {p : Addr} (ha : Ev M D ta σ H fun v _ => v = .ref p) (hb : EvR M D tb σ H RI (-1)) (hl : H p = some (.lst (l ++ [x]))) (hm : ¬ M p) (hd : D ≠ some p) : Ev M D (tOp (rIxL K) ta tb) σ H fun v _ => v = x :=
  er_ixLl (R := RV) (l := l ++ [x]) ha hb ⟨_, hl, paired_vs _⟩ hm hd (by simp)
/-- {(): ()} in a list -/
theorem en_first [Mo R] : EvN M none (tLst (tCons (tDispT (tTup tNil) (tTup tNil)) tNil)) σ H fun p H' => ∃ d, p ≠ d ∧ H' p = some (.lst [.ref d]) ∧ DAt H' d (RT R) [([], ([] : List α))] := fun H1 e Q q d hd => by
  have g := e.good
  have ex1 : Ex M none H1 (upd H1 d (.dT [])) := (Ex.refl g).new hd
  refine er_tup0 (R := RI) (M := M) (D := none) _ (Ex.refl ex1.good) _ fun y H2 e2 py => er_tup0 (R := R) (M := M) (D := none) H2 ((Ex.refl ex1.good).then e2) _ fun z H3 e3 pz => ?_
  have h3 := (e2.trans e3).keep _ _ (fun z => z) (fun z => nomatch z) (show (upd H1 d (.dT [])) d = some (.dT []) from upd_same)
  obtain ⟨b, eb, hb⟩ := hp_key (e3.mo py)
  refine ⟨h3, b, kT [], eb, hb, show 1 ≤ sizeLine by decide, fun p hp => ?_⟩
  have hdp : d ≠ p := fun z => by rw [← z, upd_same] at hp; cases hp
  have e13 : Ex M none H1 H3 := (ex1.then e2).then e3
  have e130 : Ex M0 none H1 H3 := (((Ex.refl g.m0).new hd).trans e2).trans e3
  have e4 : Ex M0 none H1 (upd H3 d (.dT [(kT [], z)])) := e130.putF hd h3 rfl (fun z => nomatch z)
  have e5 := e4.new (o := .lst [.ref d]) hp
  have tk : Sta H3 (upd H3 d (.dT [(kT [], z)])) := Sta.put h3 rfl (fun z => nomatch z)
  exact q p _ (e4.there p hp) e5 ⟨d, hdp.symm, upd_same, [([], z)], by rw [upd_ne hdp, upd_same]; rfl, .cons ⟨rfl, Mo.mono (R := RT R) (Sta.new hp) (Mo.mono (R := RT R) tk pz)⟩ .nil⟩
end
end KX
namespace KX
open PySem PySem.Spec PyProof.Rows L2
section
variable {K : PySem.W.Frag} {P : Program} {w : World} {M : Ads} {D : Option Addr} {σ : L2.St} {H H0 Hb H' : Hp} {ta tb tc te tk tv td : TE} {α β γ : Type} {R : Rel α} {S : Rel γ} {B : Ends} {tz tu : TS} {q d a : Addr}
/-- a list that stands, as an argument -/
theorem er_lsA [Mo R] {l : List α} {p : Addr} (ha : Ev M D te σ H fun v _ => v = .ref p) (hl : LAt H p R l) (hm : ¬ M p) (hd : D ≠ some p) : EvR M D te σ H (RLs R) l := fun H1 e Q q =>
  ha H1 e _ fun v H2 e2 pv => q v H2 e2 ⟨p, pv, (e.then e2).lat hm hd hl⟩
abbrev rDictT (P : Program) (w : World) : List V → Hp → VK → Prop := fun xs H Q => ∃ (a : Addr) (kvs : List (List L2.Key × V)), xs = [.ref a] ∧ Rd H a (.dT kvs) ∧ (kvs.map fun kv => tupleKeyHash (mixKind P w) kv.1).Nodup ∧ ∀ p, H p = none → Q (.ref p) (upd H p (.dT kvs))
theorem en_dictT [Mo S] {l : List (List Int × γ)} (ha : Ev M none te σ H fun v _ => v = .ref d) (hl : DAt H d S l) (hm : ¬ M d) (hh : ((l.map (·.1)).map hT).Nodup) : EvN M none (tCB (rDictT P w) (tCons te tNil)) σ H fun a H' => DAt H' a S l := fun H1 e Q q =>
  ha H1 e _ fun v H2 e2 pv => by
    obtain ⟨us, h1, h2⟩ := (e.then e2).dat hm (fun z => nomatch z) hl
    refine ⟨d, kvsOf us, by rw [pv], .inl h1, ?_, fun p hp => q p _ (e2.there p hp) (e2.new hp) ⟨us, upd_same, paired_mono (fun _ _ w => ⟨w.1, Mo.mono (Sta.new hp) w.2⟩) h2⟩⟩
    have hh' : ((us.map (·.1)).map hT).Nodup := by rw [ent_keys h2]; exact hh
    have e9 : ((kvsOf us).map fun kv => tupleKeyHash (mixKind P w) kv.1) = (us.map (·.1)).map hT := by
      unfold kvsOf
      rw [List.map_map, List.map_map]
      refine List.map_congr_left fun p _ => ?_
      exact hT_eq P w p.1
    rw [e9]
    exact hh'
abbrev rListT : List V → Hp → VK → Prop := fun xs H Q => ∃ (d : Addr) (kvs : List (List L2.Key × V)), xs = [V.ref d] ∧ Rd H d (.dT kvs) ∧ ∀ (p : Addr) (bs : List Addr), H p = none → IsKeys H kvs bs → Q (.ref p) (upd H p (.lst (bs.map V.ref)))
theorem el_listT [Mo S] {l : List (List Int × γ)} (ha : Ev M none te σ H fun v _ => v = .ref d) (hl : DAt H d S l) (hm : ¬ M d) : EvL M none (tCB rListT (tCons te tNil)) σ H RHp (l.map (·.1)) := fun H1 e Q q =>
  ha H1 e _ fun v H2 e2 pv => by
    obtain ⟨us, h1, h2⟩ := (e.then e2).dat hm (fun z => nomatch z) hl
    refine ⟨d, kvsOf us, by rw [pv], .inl h1, fun p bs hp hk => q p _ (e2.there p hp) (e2.new hp) ⟨_, upd_same, ?_⟩⟩
    rw [← ent_keys h2]
    exact paired_mono (fun _ _ w => Mo.mono (R := RHp) (Sta.new hp) w) (keys_lat hk)
/-- a, b = e1, e2 by the tuple -/
theorem q_asg2 {i j : Nat} {ta : TA} {Pa : V → V → Hp → Prop} (h : EvA M0 none ta σ H fun vs H' => ∃ v w, vs = [v, w] ∧ Pa v w H') (k : ∀ v w H1 t, Ex M0 none H H1 → Pa v w H1 → H1 t = none → tz B ((σ.set i (some v)).set j (some w)) (upd H1 t (.tup [v, w]))) :
    tSeq (tAsg (tTup ta) (gTup K 2 (gCons (gName i) (gCons (gName j) gNil)))) tz B σ H := h H (Ex.refl good0) _ fun vs H1 e ⟨v, w, ev, p⟩ => ⟨by rw [ev]; show 2 ≤ sizeLine; decide, fun t ht => by
  rw [ev]
  exact ⟨t, [v, w], rfl, SqT.of upd_same, rfl, v, [w], rfl, w, [], rfl, rfl, k v w H1 t e p ht⟩⟩
end
structure LInv (T : List Int) (m : Int) (j : Nat) (row : KM.Row) (ip : Nat) (L : KM.Row) : Prop where
  nd : (L.map (·.1)).Nodup
  from_ : ∀ kv ∈ L, kv ∈ row ∨ ∃ src ∈ row, KM.NextOf T m j src kv
  keep : ∀ kv ∈ row, kv.1 ∈ L.map (·.1)
  all : ∀ src ∈ row.take ip, ∀ r, KM.cls T src.1 m r ≠ [] → KM.withCols T src.1 (KM.cls T src.1 m r) ∈ L.map (·.1)
theorem LInv.add {T : List Int} {m : Int} {j : Nat} {row : KM.Row} {ip : Nat} {L : KM.Row} (h : LInv T m j row ip L) {src : List Int × KM.Steps} (hs : src ∈ row) (r : Int) (n : KM.withCols T src.1 (KM.cls T src.1 m r) ∉ L.map (·.1)) :
    LInv T m j row ip (L ++ [(KM.withCols T src.1 (KM.cls T src.1 m r), src.2 ++ [(j, KM.cls T src.1 m r)])]) := by
  have sub : ∀ p ∈ L.map (·.1), p ∈ (L ++ [(KM.withCols T src.1 (KM.cls T src.1 m r), src.2 ++ [(j, KM.cls T src.1 m r)])]).map (·.1) := fun p hp => by
    rw [List.map_append]
    exact List.mem_append_left _ hp
  refine ⟨?_, fun kv hk => ?_, fun kv hk => sub _ (h.keep kv hk), fun s hs r hr => sub _ (h.all s hs r hr)⟩
  · rw [List.map_append, List.nodup_append]
    exact ⟨h.nd, by simp, fun x hx y hy e => by
      rw [List.map_singleton, List.mem_singleton] at hy
      have hy' : y = KM.withCols T src.1 (KM.cls T src.1 m r) := hy
      exact n (by rw [← hy', ← e]; exact hx)⟩
  · rcases List.mem_append.mp hk with k | k
    · exact h.from_ kv k
    · exact .inr ⟨src, hs, r, List.mem_singleton.mp k⟩
theorem LInv.keys {ch : List KM.Rg} {T : List Int} (TH : KM.Heap T) {m : Int} {j : Nat} {row : KM.Row} {ip : Nat} {L : KM.Row} (h : LInv T m j row ip L) (R : KM.RowOk ch T j row) : KeysOk T (L.map (·.1)) := by
  refine ⟨h.nd, fun p hp => ?_⟩
  obtain ⟨kv, hk, rfl⟩ := List.mem_map.mp hp
  rcases h.from_ kv hk with k | ⟨src, hs, r, e⟩
  · exact (R.sound kv k).heap TH
  · obtain ⟨PH, PT⟩ := (R.sound src hs).heap TH
    rw [e]
    exact ⟨(KM.with_spec PH TH PT (KM.cls_ok PH)).1, KM.with_held PH TH PT (KM.cls_ok PH)⟩
theorem LInv.later {T : List Int} {m : Int} {j : Nat} {row L : KM.Row} (h : LInv T m j row row.length L) : KM.LaterOk T m j row L := by
  have a := h.all
  rw [List.take_length] at a
  exact ⟨h.from_, h.keep, a⟩
theorem grown_len {ch : List KM.Rg} {T : List Int} {j : Nat} {p : List Int} {st : KM.Steps} (g : KM.Grown ch T j p st) : st.length ≤ j := by
  induction g with
  | nil => exact Nat.le_refl _
  | skip _ ih => omega
  | step r e _ ih => rw [List.length_append, List.length_singleton]; omega
end KX
namespace KX
open PySem PySem.Spec PyProof.Rows L2
section
variable {K : PySem.W.Frag} {M : Ads} {D : Option Addr} {σ : L2.St} {H H0 Hb H' : Hp} {ta tb tc te tk tv td : TE} {α β γ : Type} {R : Rel α} {S : Rel γ} {B : Ends} {tz tu : TS} {q d a : Addr}
theorem EvN.imp {P P' : Addr → Hp → Prop} (h : EvN M D te σ H P) (f : ∀ p H', P p H' → P' p H') : EvN M D te σ H P' := fun H1 e Q q => h H1 e Q fun p H2 hn e2 r => q p H2 hn e2 (f p H2 r)
def RAdr : Rel (Int × Addr) := fun _ v z => v = .ref z.2
theorem zip_adr : ∀ {ks : List Int} {qs : List Addr}, ks.length = qs.length → Paired (RAdr H) (qs.map V.ref) (ks.zip qs)
  | [], [], _ => .nil
  | _ :: _, _ :: _, h => .cons rfl (zip_adr (by simpa using h))
  | [], _ :: _, h => nomatch h
  | _ :: _, [], h => nomatch h
theorem ei_newY {Px : Hp → List (Int × Addr) → Prop} (h : EvN M none te σ H fun p H' => ∃ (ks : List Int) (qs : List Addr), H' p = some (.lst (qs.map V.ref)) ∧ ks.length = qs.length ∧ Px H' (ks.zip qs)) : EvIy M none (iList K te) σ H Px RAdr := fun H1 e Q q =>
  h H1 e _ fun p H2 hn e2 ⟨ks, qs, h1, hl, px⟩ => ⟨p, rfl, ⟨_, SqL.of h1⟩, q _ H2 _ e2 px (wx_lstG (SqL.of h1) (live_new e hn) (fun z => nomatch z) (zip_adr hl) fun _ _ _ _ r => r)⟩
/-- d[k] of a dict that stands -/
theorem er_dgetD [Mo S] {l : List (List Int × γ)} {x : List Int × γ} (ha : Ev M none ta σ H fun v _ => v = .ref d) (hb : EvR M none tb σ H RHp x.1) (hl : DAt H d S l) (hm : ¬ M d) (nd : (l.map (·.1)).Nodup) (hx : x ∈ l) : EvR M none (tDGet ta tb) σ H S x.2 := by
  obtain ⟨us, h1, h2⟩ := hl
  obtain ⟨v, h3, h4⟩ := dat_mem h2 hx
  exact er_dget ha hb (fun H' e => .inl (e.keep _ _ hm (fun z => nomatch z) h1)) (by rw [ent_keys h2]; exact nd) h3 h4
end
def look (L : KM.Row) (h : List Int) : KM.Steps := ((L.find? fun kv => decide (kv.1 = h)).map (·.2)).getD []
theorem look_mem {h : List Int} : ∀ {L : KM.Row}, h ∈ L.map (·.1) → (h, look L h) ∈ L
  | [], m => nomatch m
  | kv :: L, m => by
    unfold look
    rw [List.find?_cons]
    by_cases e : kv.1 = h
    · rw [decide_eq_true e]
      subst e
      exact List.mem_cons_self ..
    · rw [decide_eq_false e]
      refine List.mem_cons_of_mem _ (look_mem ?_)
      rw [List.map_cons, List.mem_cons] at m
      exact m.resolve_left fun z => e z.symm
variable {P : Program} {w : World} {K : PySem.W.Frag} {mg : Str → Option Value} {base : PySem.Heap} {A : Nat → Addr} {F : Nat → FuncData}
def sp_grown_rows : Sp := sn2 RCh RHp (fun ch T => Cok ch ∧ TOk T) fun ch T p H' => ∃ (pre : List V) (d : Addr) (row : KM.Row), H' p = some (.lst (pre ++ [V.ref d])) ∧ DAt H' d RSt row ∧ KeysOk T (row.map (·.1)) ∧ KM.RowOk ch T ch.length row
theorem ok_grown_rows (T : Prog K mg A F) : FnOk P w K mg base CX0 4 (A 34) (F 34) ["chain", "heap"] sp_grown_rows := by
  have G_greatest_of := ok_greatest_of (P := P) (w := w) (base := base) T
  have G_let_columns := ok_let_columns (P := P) (w := w) (base := base) T
  have G_order_in := ok_order_in (P := P) (w := w) (base := base) T
  have G_with_columns := ok_with_columns (P := P) (w := w) (base := base) T
  have sc := sc_grown_rows
  refine T.d_grown_rows.ok sc_grown_rows (fun vs H Q E h => ?_) (fun cdv _ outer s H vs Q E hr h => ?_)
  · obtain ⟨_, _, _, _, rfl, _⟩ := h
    rfl
  · obtain ⟨v, y, ch, t, rfl, rc, rt, ⟨ok, tok⟩, q⟩ := h
    have TH := tok.heap
    have h12 := ok.most
    have htl := tok.len
    refine ⟨_, (pss_cons (ps_set (i := 2) sc.nd rfl (.inl rfl) (pe_lst (pa_cons (pe_dispT (Nat.lt_of_le_of_lt (Nat.le_add_right _ 64) hr.units) (pe_tup pa_nil) (pe_tup pa_nil)) pa_nil)))
      (pss_cons (ps_for PassesOwn.never rfl (k_enum K rfl (by rfl) T.enumerate (pa_cons (pv 0) pa_nil)) (k_pgT K rfl rfl (pgs_cons (pg_name (i := 3) sc.nd rfl (.inl rfl)) (pgs_cons (pg_name (i := 4) sc.nd rfl (.inl rfl)) pgs_nil))) (pss_cons (ps_asg (pe_tup (pa_cons (pe_callTy (cr_dictT (Nat.lt_of_le_of_lt (Nat.add_le_add_left (by decide : 2 ≤ 64) _) hr.units)) (by rfl) T.dict (by decide +kernel) (pa_cons (pe_ix (k_ixL K rfl) (pv 2) (pe_un un_neg pe_int) (fun _ _ => rfl)) pa_nil)) (pa_cons (pe_call G_order_in (hr.mono (by decide)) (by rfl) T.d_order_in.at_ T.d_order_in.fn.kp T.d_order_in.bi .nil pass0 (pa_cons (pv 4) pa_nil)) pa_nil))) (k_pgT K rfl rfl (pgs_cons (pg_name (i := 5) sc.nd rfl (.inr rfl)) (pgs_cons (pg_name (i := 6) sc.nd rfl (.inl rfl)) pgs_nil))))
      (pss_cons (ps_lock (ps_for PassesOwn.never rfl (pi_keys (pe_ix (k_ixL K rfl) (pv 2) (pe_un un_neg pe_int) (fun _ _ => rfl))) (pg_name (i := 7) sc.nd rfl (.inl rfl)) (pss_one (ps_for PassesOwn.never rfl (k_piL K rfl (pe_call G_let_columns (hr.mono (by decide)) (by rfl) T.d_let_columns.at_ T.d_let_columns.fn.kp T.d_let_columns.bi .nil pass0 (pa_cons (pv 1) (pa_cons (pv 7) (pa_cons (pv 6) pa_nil))))) (pg_name (i := 8) sc.nd rfl (.inl rfl)) (pss_one (ps_expr (pe_setT (Nat.lt_of_le_of_lt (Nat.add_le_add_left (by decide : 1 ≤ 64) _) hr.units) (pv 5) (pe_call G_with_columns (hr.mono (by decide)) (by rfl) T.d_with_columns.at_ T.d_with_columns.fn.kp T.d_with_columns.bi .nil pass0 (pa_cons (pv 1) (pa_cons (pv 7) (pa_cons (pv 8) pa_nil)))) (pe_tup (k_star K rfl (pe_dget (Nat.lt_of_le_of_lt (Nat.add_le_add_left (by decide : 1 ≤ 64) _) hr.units) (pe_ix (k_ixL K rfl) (pv 2) (pe_un un_neg pe_int) (fun _ _ => rfl)) (pv 7) (fun _ _ => rfl)) (pa_cons (pe_tup (pa_cons (pv 3) (pa_cons (pe_callTy (k_tupOf K rfl) (by rfl) T.tuple (by decide +kernel) (pa_cons (pv 8) pa_nil)) pa_nil))) pa_nil))) ⟨rfl, rfl, rfl, rfl⟩)))))))
      (pss_one (ps_expr (pe_bm PySem.F.plainAttrs_list PySem.F.slot_list_append PySem.F.type_list_append mt_append (pv 2) (pa_cons (pe_dcT (own := [("part", 7)]) (g := gName 7) rfl (Nat.lt_of_le_of_lt (Nat.le_add_right _ 64) hr.units) sc.nd (k_piL K rfl (pe_call G_greatest_of (hr.mono (by decide)) (by rfl) T.d_greatest_of.at_ T.d_greatest_of.fn.kp T.d_greatest_of.bi .nil pass0 (pa_cons (pe_callTy (call_list_dT rfl) (by rfl) T.list (by decide +kernel) (pa_cons (pv 5) pa_nil)) pa_nil))) (blkOk_by (N := N_grown_rows) (sc := defScope s_grown_rows) (by decide +kernel)) (fun _ _ _ _ _ => (pg_name (i := 7) sc.nd rfl (.inl rfl))) (fun _ _ _ _ _ => (pv 7)) (fun _ _ _ _ _ => (pe_dget (Nat.lt_of_le_of_lt (Nat.add_le_add_left (by decide : 1 ≤ 64) _) hr.units) (pv 5) (pv 7) (fun _ _ => rfl)))) pa_nil)))))))
      (pss_one (ps_ret (pv 2))))), ?_⟩
    refine q_new e00 (en_first (R := RP RN (RT RN))) fun rw H1 hn e1 ⟨d0, hd0, hrw, hrow⟩ => ?_
    have g1 : Good (fun a => a = rw) none H1 := good1 (by rw [hrw]; exact fun z => nomatch z)
    have rc1 := e1.mo rc
    have rt1 := e1.mo rt
    refine q_for (Ex.refl g1) (ei_enumT (er_var rfl rc1)) (fun i σ' H' => (∃ a b c d e f, σ' = [some v, some y, some (.ref rw), a, b, c, d, e, f]) ∧ ∃ (pre : List V) (d : Addr) (row : KM.Row), H' rw = some (.lst (pre ++ [V.ref d])) ∧ pre.length = i ∧ rw ≠ d ∧ DAt H' d RSt row ∧ KeysOk t (row.map (·.1)) ∧ KM.RowOk ch t i row) ?_ ?_ ?_ ?_
    · refine ⟨⟨_, _, _, _, _, _, rfl⟩, [], d0, [([], [])], hrw, rfl, hd0, hrow, ⟨by simp, fun p hp => ?_⟩, KM.row_zero ch TH⟩
      have hp : p = [] := by simpa using hp
      subst hp
      exact ⟨KM.Heap.nil, fun c => by rw [KM.hgt_nil]; exact TH.nn c⟩
    · exact fun i σ' H' H'' ⟨h1, pre, d, row, k1, k2, k3, k4, k5⟩ e => ⟨h1, pre, d, row, e.keep _ _ (fun z => z) (fun z => nomatch z) k1, k2, k3, e.dat (fun z => z) (fun z => nomatch z) k4, k5⟩
    · rintro i u lr σ' H' hx e r ⟨⟨a1, a2, a3, a4, a5, a6, rfl⟩, pre, dd, row, k1, k2, k3, k4, k5, k6⟩ N hN
      obtain ⟨ei, hring⟩ := numd_some (show _ = some (lr.1, lr.2) from hx)
      have hok := ok.ok lr.2 (List.mem_of_getElem? hring)
      have hil : i < ch.length := (List.getElem?_eq_some_iff.mp hring).1
      refine g_pair r fun vl vr rl rr => ?_
      have rt2 := e.mo rt1
      refine q_asg2 (Pa := fun x z Hx => ∃ a, x = V.ref a ∧ z = V.int (KM.ord lr.2) ∧ H' a = none ∧ DAt Hx a RSt row) (fun Hx e2 Q q2 => en_dictT (P := P) (w := w) (M := M0) (ev_last (ev_var rfl) (er_neg er_int) k1 (fun z => z) (fun z => nomatch z)) k4 (fun z => z) (k5.hash tok) Hx e2 _ fun a H3 ha e3 da => ev_c1 (M := M0) (D := none) (er_var rfl ((e2.trans e3).mo rr)) hok H3 (Ex.refl good0) _ fun z H4 e4 pz => q2 [.ref a, z] H4 (e3.trans e4) ⟨_, _, rfl, a, rfl, pz, e2.there a ha, e4.dat (fun z => z) (fun z => nomatch z) da⟩) fun x z H3 tp e3 ⟨a, ex, ez, han, da⟩ htp => ?_
      subst ex ez
      have e4 : Ex M0 none H' (upd H3 tp (.tup [V.ref a, V.int (KM.ord lr.2)])) := e3.new htp
      have da4 : DAt (upd H3 tp (.tup [V.ref a, V.int (KM.ord lr.2)])) a RSt row := ((Ex.refl (good0 (H := H3))).new htp).dat (fun z => z) (fun z => nomatch z) da
      generalize upd H3 tp (.tup [V.ref a, V.int (KM.ord lr.2)]) = HA at e4 da4 ⊢
      have k14 := e4.keep rw _ (fun z => z) (fun z => nomatch z) k1
      have hda : dd ≠ a := fun z => by
        obtain ⟨us, h1, _⟩ := k4
        rw [z, han] at h1
        cases h1
      have harw : rw ≠ a := fun z => by rw [z, han] at k1; cases k1
      obtain ⟨us, hus1, hus2⟩ := e4.dat (fun z => z) (fun z => nomatch z) k4
      have ekeys := ent_keys hus2
      have ndus : (us.map (·.1)).Nodup := by rw [ekeys]; exact k5.1
      refine ⟨dd, .dT (kvsOf us), hus1, True.intro, fun od => ?_⟩
      obtain ⟨HL, hHL⟩ : ∃ HL, HL = upd HA dd (.frz od (.dT (kvsOf us))) := ⟨_, rfl⟩
      have tl : ∀ b xs, HA b = some (.tup xs) → HL b = some (.tup xs) := by rw [hHL]; exact lock_tups hus1 (fun z => nomatch z)
      have hLd : HL dd = some (.frz od (.dT (kvsOf us))) := by rw [hHL]; exact upd_same
      have daL : DAt HL a RSt row := dat_tups tl (by rw [hHL]; exact upd_ne (Ne.symm hda)) da4
      have rtL : RHp HL y t := MoT.mono tl (e4.mo rt2)
      have husL : Paired (Ent RSt HL) us row := paired_mono (fun _ _ w => ⟨w.1, MoT.mono tl w.2⟩) hus2
      have gL : Good (fun b => b = a) none HL := good1 (by obtain ⟨_, h1, _⟩ := daL; rw [h1]; exact fun z => nomatch z)
      have krwL : HL rw = some (.lst (pre ++ [V.ref dd])) := by rw [hHL, upd_ne k3]; exact k14
      rw [← hHL]
      refine f_for (M := fun b => b = a) (D := none) (R := RHp) (xs := us.map (·.1)) (Ex.refl gL) (ei_keysT (ev_last (ev_var rfl) (er_neg er_int) krwL harw (fun z => nomatch z)) hLd hda) (fun ip σ' Hx => (∃ x1 x2, σ' = [some v, some y, some (.ref rw), some vl, some vr, some (.ref a), some (.int (KM.ord lr.2)), x1, x2]) ∧ ∃ L, DAt Hx a RSt L ∧ LInv t (KM.ord lr.2) i row ip L) ?_ ?_ ?_ ?_
      · exact ⟨⟨_, _, rfl⟩, row, daL, k5.1, fun kv h => .inl h, fun kv h => List.mem_map.mpr ⟨kv, h, rfl⟩, fun src h => by simp at h⟩
      · exact fun ip σ' Hx Hy ⟨h1, L, h2, h3⟩ e => ⟨h1, L, e.dat (fun z => z) (fun z => nomatch z) h2, h3⟩
      · rintro ip u1 p σ2 H2 hx2 e5 rp ⟨⟨x1, x2, rfl⟩, L, dL, li⟩ N2 hN2
        rw [ekeys, List.getElem?_map] at hx2
        obtain ⟨src, hsr, hsp⟩ := Option.map_eq_some_iff.mp hx2
        have hsm : src ∈ row := List.mem_of_getElem? hsr
        subst hsp
        have GR := k6.sound src hsm
        obtain ⟨PH, PT⟩ := GR.heap TH
        have hpl := held_len TH PH PT
        refine g_name ?_
        refine f_forY (M := fun b => b = a) (D := none) (R := RAdr) (Px := fun Hb xs => (∀ z ∈ xs, LAt Hb z.2 RN (KM.cls t src.1 (KM.ord lr.2) z.1)) ∧ ∀ r, KM.cls t src.1 (KM.ord lr.2) r ≠ [] → ∃ z ∈ xs, z.1 = r) (Ex.refl e5.good) ?_ (fun xs ic σ' Hx => (∃ x2, σ' = [some v, some y, some (.ref rw), some vl, some vr, some (.ref a), some (.int (KM.ord lr.2)), some u1, x2]) ∧ ∃ L, DAt Hx a RSt L ∧ LInv t (KM.ord lr.2) i row ip L ∧ ∀ z ∈ xs.take ic, KM.withCols t src.1 (KM.cls t src.1 (KM.ord lr.2) z.1) ∈ L.map (·.1)) ?_ ?_ ?_ ?_
        · refine ei_newY (EvN.imp (en_c3 (er_var rfl (e5.mo rtL)) (er_var rfl rp) (er_var (R := RI) rfl rfl) ⟨by omega, hpl, ord_pos hok.ok⟩) fun pa Hx ⟨ks, qs, j1, j2, j3, j4⟩ => ⟨ks, qs, j1, j2, fun z hz => ?_, fun r hr => ?_⟩)
          · obtain ⟨j, hj⟩ := List.mem_iff_getElem?.mp hz
            obtain ⟨hj1, hj2⟩ := List.getElem?_zip_eq_some.mp hj
            exact j3 j z.2 z.1 hj2 hj1
          · obtain ⟨j, hj⟩ := List.mem_iff_getElem?.mp (j4 r hr)
            have hjl := (List.getElem?_eq_some_iff.mp hj).1
            have hq := List.getElem?_eq_getElem (l := qs) (i := j) (by omega)
            exact ⟨(r, _), List.mem_of_getElem? (i := j) (List.getElem?_zip_eq_some.mpr ⟨hj, hq⟩), rfl⟩
        · exact fun Hb xs eb px => ⟨⟨_, rfl⟩, L, eb.dat (fun z => z) (fun z => nomatch z) dL, li, fun z h => by simp at h⟩
        · exact fun xs ic σ' Hx Hy ⟨h1, L, h2, h3⟩ e => ⟨h1, L, e.dat (fun z => z) (fun z => nomatch z) h2, h3⟩
        · rintro Hb zs eb ⟨pz1, pz2⟩ ic u2 z σ3 H3 hx3 e6 rz ⟨⟨x2, rfl⟩, L, dL3, li, hdone⟩ N3 hN3
          have hu2 : u2 = .ref z.2 := rz
          subst hu2
          refine g_name ?_
          have eL3 : Ex (fun b => b = a) none HL H3 := (e5.then eb).trans e6
          have lzb := pz1 z (List.mem_of_getElem? hx3)
          have hza : z.2 ≠ a := fun q0 => by
            obtain ⟨xs, c1, _⟩ := lzb
            obtain ⟨ws, c2, _⟩ := eb.dat (fun z => z) (fun z => nomatch z) dL
            rw [q0, c2] at c1
            cases c1
          have lz : LAt H3 z.2 RN (KM.cls t src.1 (KM.ord lr.2) z.1) := e6.lat hza (fun z => nomatch z) lzb
          have hko := li.keys TH k6
          have hLl := hko.len tok
          rw [List.length_map] at hLl
          obtain ⟨sv, hsv, hsR⟩ := dat_mem husL hsm
          have h3d := eL3.keep _ _ hda (fun z => nomatch z) hLd
          have h3rw := eL3.keep _ _ harw (fun z => nomatch z) krwL
          have rl3 : RN H3 vl i := by rw [← ei]; exact rl
          have hsl := grown_len GR
          refine ev_setT (M := fun b => b = a) (S := RSt) (l := L) (p := KM.withCols t src.1 (KM.cls t src.1 (KM.ord lr.2) z.1)) (x := src.2 ++ [(i, KM.cls t src.1 (KM.ord lr.2) z.1)]) (ev_var rfl) (ev_c3 (er_var rfl (eL3.mo rtL)) (er_var rfl ((Ex.refl e5.good).then eb |>.trans e6 |>.mo rp)) (er_lsA (ev_var rfl) lz (fun z => z) (fun z => nomatch z)) ⟨by omega, hpl, KM.cls_nodup _ _ _ _, fun c hc => (KM.cls_ok PH c hc).2.2⟩) (er_starT (er_dget (S := RSt) (us := us) (p := src.1) (v := sv) (x := src.2) (ev_last (ev_var rfl) (er_neg er_int) h3rw (fun z => z) (fun z => nomatch z)) (er_var rfl ((Ex.refl e5.good).then eb |>.trans e6 |>.mo rp)) (fun Hz ez => .inr ⟨od, ez.keep _ _ (fun z => z) (fun z => nomatch z) h3d⟩) ndus hsv (eL3.mo hsR)) (er_pair (er_var rfl rl3) (er_tupA (ev_var rfl) lz (fun z => z) (fun z => nomatch z))) (by omega)) dL3 (by omega) li.nd rfl e6.good fun H4 e7 hin hno => ?_
          by_cases hk : KM.withCols t src.1 (KM.cls t src.1 (KM.ord lr.2) z.1) ∈ L.map (·.1)
          · refine hN3 _ H4 e7 ⟨⟨_, rfl⟩, L, hin hk, li, fun z' h' => ?_⟩
            rw [take_step hx3] at h'
            rcases List.mem_append.mp h' with h' | h'
            · exact hdone z' h'
            · rw [List.mem_singleton.mp h']; exact hk
          · refine hN3 _ H4 e7 ⟨⟨_, rfl⟩, _, hno hk, li.add hsm z.1 hk, fun z' h' => ?_⟩
            rw [List.map_append]
            rw [take_step hx3] at h'
            rcases List.mem_append.mp h' with h' | h'
            · exact List.mem_append_left _ (hdone z' h')
            · rw [List.mem_singleton.mp h']
              exact List.mem_append_right _ (List.mem_singleton.mpr rfl)
        · rintro Hb zs eb ⟨pz1, pz2⟩ σ3 H3 e6 ⟨⟨x2, rfl⟩, L, dL3, li, hdone⟩
          rw [List.take_length] at hdone
          refine hN2 _ H3 (((Ex.refl e5.good).then eb).trans e6) ⟨⟨_, _, rfl⟩, L, dL3, li.nd, li.from_, li.keep, fun s hs r hr => ?_⟩
          rw [take_step hsr] at hs
          rcases List.mem_append.mp hs with hs | hs
          · exact li.all s hs r hr
          · rw [List.mem_singleton.mp hs] at hr ⊢
            obtain ⟨z, hz, rfl⟩ := pz2 r hr
            exact hdone z hz
      · rintro σ2 H2 e5 ⟨⟨x1, x2, rfl⟩, L, dL, li⟩
        have h2d := e5.keep _ _ hda (fun z => nomatch z) hLd
        refine ⟨h2d, ?_⟩
        have gA : Good (fun b => b = a) none HA := good1 (by obtain ⟨_, h1, _⟩ := da4; rw [h1]; exact fun z => nomatch z)
        have eU : Ex (fun b => b = a) none HA (upd H2 dd (.dT (kvsOf us))) := unlock_ex gA hus1 (fun z => nomatch z) hda (by rw [hHL] at e5; exact e5)
        have gA2 : Good (fun b => b = a ∨ b = rw) none HA := ⟨fun b hb => by
          rcases hb with rfl | rfl
          · exact gA.live _ rfl
          · rw [k14]; exact (fun z => nomatch z), fun _ z => nomatch z⟩
        have e8 : Ex (fun b => b = rw) none H' (upd H2 dd (.dT (kvsOf us))) := (e4.up e.good).drop (eU.wide gA2 fun b h => .inl h) (fun b h => h.elim (fun z => .inr (by rw [z]; exact han)) fun z => .inl z) fun b h => .inr h
        have dLU : DAt (upd H2 dd (.dT (kvsOf us))) a RSt L := dat_tups (lock_tups h2d (fun z => nomatch z)) (upd_ne (Ne.symm hda)) dL
        have krwU : (upd H2 dd (.dT (kvsOf us))) rw = some (.lst (pre ++ [V.ref dd])) := by
          rw [upd_ne k3]
          exact e5.keep _ _ harw (fun z => nomatch z) krwL
        generalize upd H2 dd (.dT (kvsOf us)) = HU at e8 dLU krwU ⊢
        have hlen : (us.map (·.1)).length = row.length := by rw [ekeys, List.length_map]
        rw [hlen] at li
        have hko := li.keys TH k6
        have hLl := hko.len tok
        have later := li.later
        refine ev_appN (M := fun b => b = rw) (PN := fun d' H5 => ∃ G : List (List Int), (G.Nodup ∧ (∀ h ∈ G, h ∈ L.map (·.1)) ∧ ∀ h ∈ L.map (·.1), h ∈ G ∨ ∃ o ∈ G, KM.holdsB o h = true) ∧ DAt H5 d' RSt (G.map fun h => (h, look L h))) (ev_var rfl) krwU (by rw [List.length_append, List.length_singleton]; omega) rfl e8.good (en_dcTX (R := RHp) (S := RSt) (fun h => h) (look L) (ei_newX (EvN.imp (en_c1 (er_ofL (el_listT (ev_var rfl) dLU (fun z => z))) ⟨hko.1, by omega, fun h hh => Nat.lt_of_le_of_lt (held_len TH (hko.2 h hh).1 (hko.2 h hh).2) (by omega)⟩) fun p Hx ⟨G, j1, j2, j3, j4⟩ => ⟨G, ⟨j2, j3, j4⟩, j1⟩)) (fun G px => ⟨Nat.lt_of_le_of_lt (List.Nodup.length_le_of_subset px.1 px.2.1) (Nat.lt_of_le_of_lt hLl (by decide)), by rw [List.map_id']; exact px.1⟩) fun G px j x h Hx hxh ex rh => tg_name (fun _ => rfl) ⟨er_var rfl rh, er_dgetD (x := (h, look L h)) (ev_var rfl) (er_var rfl rh) (ex.dat (fun z => z) (fun z => nomatch z) dLU) (fun z => z) hko.1 (look_mem (px.2.1 h (List.mem_of_getElem? hxh)))⟩) fun d' H5 hd' e9 ⟨G, ⟨gn, gs, gall⟩, dG⟩ h5 e10 => ?_
        · have hkeys : (G.map fun h => (h, look L h)).map (·.1) = G := by rw [List.map_map]; exact List.map_id' _
          have hgk : ∀ h ∈ G, KM.Heap h ∧ KM.Held h t := fun h hh => hko.2 h (gs h hh)
          refine hN _ _ (e8.trans e10) ⟨⟨_, _, _, _, _, _, rfl⟩, pre ++ [V.ref dd], d', _, upd_same, by rw [List.length_append, k2]; rfl, fun z => ?_, dat_tups (lock_tups h5 (fun z => nomatch z)) (upd_ne fun z => ?_) dG, by rw [hkeys]; exact ⟨gn, hgk⟩, KM.row_next TH ok.rg hring k6 later (fun kv hk => ?_) fun p hp => ?_⟩
          · rw [← z, krwU] at hd'
            cases hd'
          · rw [z, krwU] at hd'
            cases hd'
          · obtain ⟨h, hh, rfl⟩ := List.mem_map.mp hk
            exact look_mem (gs h hh)
          · rcases gall p hp with hg | ⟨o, ho, hb⟩
            · exact ⟨_, List.mem_map.mpr ⟨p, hg, rfl⟩, KM.Held.refl p⟩
            · exact ⟨_, List.mem_map.mpr ⟨o, ho, rfl⟩, (KM.holdsB_iff (hgk o ho).1 (hko.2 p hp).1).mp hb⟩
    · rintro σ' H' e ⟨⟨a1, a2, a3, a4, a5, a6, rfl⟩, pre, dd, row, k1, k2, k3, k4, k5, k6⟩
      have hl : (numd ch).length = ch.length := by simp [numd]
      rw [hl] at k6
      refine s_ret (Ex.refl good0) (ev_var rfl) fun v H2 e2 p => ?_
      rw [p]
      exact q rw H2 hn ((back1 e1 hn e).trans e2.toSame) ⟨pre, dd, row, e2.keep _ _ (fun z => z) (fun z => nomatch z) k1, e2.dat (fun z => z) (fun z => nomatch z) k4, k5, k6⟩
end KX
namespace KX
open PySem PySem.Spec PyProof.Rows L2
section
variable {K : PySem.W.Frag} {M : Ads} {D : Option Addr} {σ : L2.St} {H H0 Hb H' : Hp} {ta tb tc te tk tv td : TE} {α β γ : Type} {R : Rel α} {S : Rel γ} {B : Ends} {tz tu : TS} {q d a : Addr}
/-- l[-1] of a new list -/
theorem ev_lastN {P : V → Hp → Prop} (ha : EvN M none ta σ H fun p H' => ∃ (pre : List V) (x : V), H' p = some (.lst (pre ++ [x])) ∧ P x H') (hb : EvR M none tb σ H RI (-1)) (hP : ∀ x H1 H2, Ex M0 none H1 H2 → P x H1 → P x H2) : Ev M none (tOp (rIxL K) ta tb) σ H P := fun H1 e Q q =>
  ha H1 e _ fun p H2 hn e2 ⟨pre, x, h1, px⟩ => hb H2 (e.then e2) _ fun y H3 e3 py =>
    ⟨p, pre ++ [x], -1, x, rfl, py, SqL.of (e3.keep _ _ (fun z => z) (fun z => nomatch z) h1), atI_last pre x, q x H3 (e2.trans e3) (hP x H2 H3 e3 px)⟩
theorem et_isN {P : V → Hp → Prop} {p : Bool → Prop} (ha : Ev M D ta σ H P) (h : ∀ v H', P v H' → p (decide (v = .non))) : EvT M D (tTest (tOp (fun x y H Q => y = .non ∧ Q (.bl (decide (x = .non))) H) ta (tC .non))) σ H p := fun H1 e Q q =>
  ha H1 e _ fun v H2 e2 pv => ⟨rfl, _, rfl, q _ H2 e2 (h v H2 pv)⟩
theorem et_notN {P : V → Hp → Prop} {p : Bool → Prop} (ha : Ev M D ta σ H P) (h : ∀ v H', P v H' → p (!decide (v = .non))) : EvT M D (tTest (tOp (fun x y H Q => y = .non ∧ Q (.bl (!decide (x = .non))) H) ta (tC .non))) σ H p := fun H1 e Q q =>
  ha H1 e _ fun v H2 e2 pv => ⟨rfl, _, rfl, q _ H2 e2 (h v H2 pv)⟩
end
theorem grown_steps {ch : List KM.Rg} {T : List Int} (TH : KM.Heap T) {j : Nat} {p : List Int} {st : KM.Steps} (g : KM.Grown ch T j p st) : ∀ s ∈ st, s.2.Nodup ∧ ∀ c ∈ s.2, c < T.length := by
  induction g with
  | nil => exact fun _ h => nomatch h
  | skip _ ih => exact ih
  | step r e g ih =>
    intro s hs
    rcases List.mem_append.mp hs with h | h
    · exact ih s h
    · rw [List.mem_singleton.mp h]
      exact ⟨KM.cls_nodup _ _ _ _, fun c hc => (KM.cls_ok (g.heap TH).1 c hc).2.2⟩
variable {P : Program} {w : World} {K : PySem.W.Frag} {mg : Str → Option Value} {base : PySem.Heap} {A : Nat → Addr} {F : Nat → FuncData}
def sp_some_filling_in : Sp := sp2 RCh RHp (fun ch T => Cok ch ∧ TOk T) fun ch T v H' => (v = .non ∧ ∀ x : List Int, x.length = ch.length → ¬ KM.Held T (KM.heapOf ch x)) ∨ ∃ fil, RFil H' v fil ∧ KM.FillOk ch T fil
theorem ok_some_filling_in (T : Prog K mg A F) : FnOk P w K mg base CX0 5 (A 36) (F 36) ["chain", "heap"] sp_some_filling_in := by
  have G_grown_rows := ok_grown_rows (P := P) (w := w) (base := base) T
  have G_letters_put := ok_letters_put (P := P) (w := w) (base := base) T
  have sc := sc_some_filling_in
  refine T.d_some_filling_in.ok sc_some_filling_in (fun vs H Q E h => ?_) (fun cdv _ outer s H vs Q E hr h => ?_)
  · obtain ⟨_, _, _, _, rfl, _⟩ := h
    rfl
  · obtain ⟨v, y, ch, t, rfl, rc, rt, ⟨ok, tok⟩, q⟩ := h
    have TH := tok.heap
    have htl := tok.len
    have h12 := ok.most
    refine ⟨_, (pss_cons (ps_set (i := 2) sc.nd rfl (.inl rfl) (pe_dget2 (Nat.lt_of_le_of_lt (Nat.add_le_add_left (by decide : 1 ≤ 64) _) hr.units) (pe_ix (k_ixL K rfl) (pe_call G_grown_rows (hr.mono (by decide)) (by rfl) T.d_grown_rows.at_ T.d_grown_rows.fn.kp T.d_grown_rows.bi .nil pass0 (pa_cons (pv 0) (pa_cons (pv 1) pa_nil))) (pe_un un_neg pe_int) (fun _ _ => rfl)) (pv 1) pe_non ⟨rfl, rfl, rfl, rfl⟩))
      (pss_one (ps_ret (pe_ifExp (pt_cmpR op_isN (pv 2) pe_non (nomark _)) pe_non (pe_call G_letters_put (hr.mono (by decide)) (by rfl) T.d_letters_put.at_ T.d_letters_put.fn.kp T.d_letters_put.bi .nil pass0 (pa_cons (pv 1) (pa_cons (pv 2) pa_nil))))))), ?_⟩
    refine q_set (P := fun z H' => (z = .non ∧ ∀ x : List Int, x.length = ch.length → ¬ KM.Held t (KM.heapOf ch x)) ∨ ∃ st, RSt H' z st ∧ KM.Grown ch t ch.length t st) e00 ?_ fun z H1 e1 hz => ?_
    · intro H1 e Q q
      refine ev_lastN (M := M0) (P := fun x H' => ∃ d row, x = .ref d ∧ DAt H' d RSt row ∧ KeysOk t (row.map (·.1)) ∧ KM.RowOk ch t ch.length row) (EvN.imp (en_c2 (er_var rfl rc) (er_var rfl rt) ⟨ok, tok⟩) fun p Hx ⟨pre, d, row, j1, j2, j3, j4⟩ => ⟨pre, .ref d, j1, d, row, rfl, j2, j3, j4⟩) (er_neg er_int) (fun x Ha Hb ex ⟨d, row, j1, j2, j3⟩ => ⟨d, row, j1, ex.dat (fun z => z) (fun z => nomatch z) j2, j3⟩) H1 e _ fun x H2 e2 ⟨d, row, ex, ⟨us, u1, u2⟩, kok, rok⟩ => ?_
      subst ex
      have rt2 := (e.trans e2).mo rt
      obtain ⟨b, eb, hb⟩ := hp_key rt2
      have hkeys := ent_keys u2
      by_cases hin : t ∈ row.map (·.1)
      · obtain ⟨kv, k1, k2⟩ := List.mem_map.mp hin
        obtain ⟨sv, s1, s2⟩ := dat_mem u2 k1
        rw [k2] at s1
        have hg := rok.sound kv k1
        rw [k2] at hg
        refine ⟨d, rfl, .inr ⟨_, .inl u1⟩, y, rfl, some sv, ?_, q sv H2 e2 (.inr ⟨kv.2, s2, hg⟩)⟩
        rw [eb, ← kvs_some (by rw [hkeys]; exact kok.1) s1]
        exact DGet.t u1 hb
      · refine ⟨d, rfl, .inr ⟨_, .inl u1⟩, y, rfl, none, ?_, q .non H2 e2 (.inl ⟨rfl, fun x hx => KM.no_fill TH rok hin hx⟩)⟩
        rw [eb, ← kvs_none (by rw [hkeys]; exact hin)]
        exact DGet.t u1 hb
    · have rt1 := e1.mo rt
      rcases hz with ⟨hz, hno⟩ | ⟨st, hst, hg⟩
      · refine s_ret (P := fun v H' => v = .non) (Ex.refl good0) (ev_if (p := fun b => b = true) (et_isN (ev_var rfl) fun v H' pv => by rw [pv, hz]; rfl) (fun _ => ev_c) fun hb => by cases hb) fun v H2 e2 pv => q v H2 (e1.trans e2).toSame (.inl ⟨pv, hno⟩)
      · have hne : z ≠ .non := fun h => by
          obtain ⟨_, _, h2, _⟩ := hst
          rw [h] at h2
          cases h2
        have hlen := grown_len hg
        refine s_ret (P := fun v H' => RFil H' v (KM.lettersPut t st)) (Ex.refl good0) (ev_if (p := fun b => b = false) (et_isN (ev_var rfl) fun v H' pv => by rw [pv]; exact decide_eq_false hne) (fun hb => by cases hb) fun _ => ev_c2 (er_var rfl rt1) (er_var rfl hst) ⟨by omega, by omega, grown_steps TH hg⟩) fun v H2 e2 pv => q v H2 (e1.trans e2).toSame (.inr ⟨_, pv, KM.fill_ok TH ok.rg hg⟩)
structure Cok5 (ch : List KM.Rg) : Prop where
  ok : Cok ch
  five : ch.length ≤ 5
/-- a tuple that holds what is filled -/
theorem fill_tup {ch : List KM.Rg} {T : List Int} {fil : List (List Nat)} (ok : ∀ r ∈ ch, KM.RgOk r) (f : KM.FillOk ch T fil) : ∃ x, KM.Tup ch x ∧ KM.Held T (KM.heapOf ch x) := by
  obtain ⟨x0, h0⟩ := f.some_
  let x : List Int := (List.range ch.length).map fun j => open Classical in if ∃ (c : Nat) (l : List Nat) (w : Nat), fil[c]? = some l ∧ l[w]? = some j then x0 j else 0
  have hl : x.length = ch.length := by simp [x]
  have hx : ∀ j, j < ch.length → x[j]? = some (open Classical in if ∃ (c : Nat) (l : List Nat) (w : Nat), fil[c]? = some l ∧ l[w]? = some j then x0 j else 0) := fun j hj => by
    show ((List.range ch.length).map _)[j]? = _
    rw [List.getElem?_map, List.getElem?_range hj]
    rfl
  refine ⟨x, KM.tup_iff.mpr ⟨hl.symm, fun j r p h1 h2 => ?_⟩, f.held x hl fun c l w i h1 h2 => ?_⟩
  · rw [hx j (List.getElem?_eq_some_iff.mp h1).1] at h2
    have := (ok r (List.mem_of_getElem? h1)).two
    split at h2
    · rename_i hc
      cases h2
      obtain ⟨c, l, w, k1, k2⟩ := hc
      obtain ⟨rg, k3, k4⟩ := h0 c l w j k1 k2
      rw [h1] at k3
      cases k3
      rw [k4]
      exact ⟨Int.emod_nonneg _ (by omega), Int.emod_lt_of_pos _ (by omega)⟩
    · cases h2
      omega
  · have hs := h0 c l w i h1 h2
    obtain ⟨rg, k3, k4⟩ := hs
    refine ⟨x0 i, ?_, rg, k3, k4⟩
    rw [hx i (List.getElem?_eq_some_iff.mp k3).1, if_pos ⟨c, l, w, h1, h2⟩]
theorem box_ok {k : Nat} {r : Int} (h1 : 1 ≤ r) (h2 : (k : Int) + 1 + r ≤ 6) : TOk (List.replicate (k + 1) r) :=
  ⟨KM.rep_heap _ h1, k + 1, r.toNat, by simp, fun c => by rw [KM.hgt_rep]; split <;> omega, by omega, by omega⟩
def sp_filled_box : Sp := sp2 RCh RN (fun ch k => Cok5 ch ∧ k < ch.length) fun ch k v H' => ∃ fil r, RFil H' v fil ∧ KM.FillOk ch (List.replicate (k + 1) r) fil ∧ KM.IsMax ch k r
theorem ok_filled_box (T : Prog K mg A F) : FnOk P w K mg base CX0 6 (A 37) (F 37) ["chain", "k"] sp_filled_box := by
  have G_box_in := ok_box_in (P := P) (w := w) (base := base) T
  have G_some_filling_in := ok_some_filling_in (P := P) (w := w) (base := base) T
  have sc := sc_filled_box
  refine T.d_filled_box.ok sc_filled_box (fun vs H Q E h => ?_) (fun cdv _ outer s H vs Q E hr h => ?_)
  · obtain ⟨_, _, _, _, rfl, _⟩ := h
    rfl
  · obtain ⟨v, y, ch, k, rfl, rc, rk, ⟨ok5, hk⟩, q⟩ := h
    have ok := ok5.ok
    have h5 := ok5.five
    have h12 := ok.most
    refine ⟨_, (pss_cons (ps_for PassesOwn.never rfl (pi_range3 rfl T.range (pa_cons (pe_op op_sub (pe_callB (k_len K rfl) (by rfl) T.len (by decide +kernel) (pa_cons (pv 0) pa_nil)) (pv 1)) (pa_cons pe_int (pa_cons (pe_un un_neg pe_int) pa_nil)))) (pg_name (i := 2) sc.nd rfl (.inl rfl)) (pss_cons (ps_set (i := 3) sc.nd rfl (.inl rfl) (pe_call G_some_filling_in (hr.mono (by decide)) (by rfl) T.d_some_filling_in.at_ T.d_some_filling_in.fn.kp T.d_some_filling_in.bi .nil pass0 (pa_cons (pv 0) (pa_cons (pe_call G_box_in (hr.mono (by decide)) (by rfl) T.d_box_in.at_ T.d_box_in.fn.kp T.d_box_in.bi .nil pass0 (pa_cons (pe_op op_add (pv 1) pe_int) (pa_cons (pv 2) pa_nil))) pa_nil))))
      (pss_one (ps_if (pt_cmpR op_notN (pv 3) pe_non (nomark _)) (pss_one (ps_ret (pv 3))) pss_nil))))
      (pss_one (ps_ret (pe_tup pa_nil)))), ?_⟩
    refine q_for (R := RI) (xs := (List.range (((ch.length : Int) - (k : Int)) - 0).toNat).map fun (i : Nat) => ((ch.length : Int) - (k : Int)) + (i : Int) * -1) (M := M0) (D := none) e00 (ei_rngD (er_sub (er_nat (er_lenT (er_var rfl rc)) rfl) (er_nat (er_var rfl rk) rfl)) er_int (er_neg er_int) (by omega)) (fun i σ' H' => (∃ a b, σ' = [some v, some y, a, b]) ∧ ∀ x, KM.Tup ch x → KM.hgt (KM.heapOf ch x) k ≤ (ch.length : Int) - k - i) ?_ ?_ ?_ ?_
    · refine ⟨⟨_, _, rfl⟩, fun x hx => ?_⟩
      have := KM.hook (ch := ch) (x := x) k
      omega
    · exact fun i σ' H' H'' h e => h
    · rintro i u rw_ σ' H' hx e r ⟨⟨a, b, rfl⟩, hno⟩ N hN
      rw [List.getElem?_map] at hx
      obtain ⟨i', hi', er⟩ := Option.map_eq_some_iff.mp hx
      have hil := (List.getElem?_eq_some_iff.mp hi').1
      rw [List.length_range] at hil
      rw [List.getElem?_range hil] at hi'
      cases hi'
      have e1 : rw_ = (ch.length : Int) - k - i := by rw [← er]; omega
      subst e1
      have r1 : 1 ≤ (ch.length : Int) - k - i := by omega
      refine g_name ?_
      have eb : boxI (k + 1) ((ch.length : Int) - k - i) = List.replicate (k + 1) ((ch.length : Int) - k - i) := by
        unfold boxI
        rw [if_pos (by omega)]
      have tok : TOk (List.replicate (k + 1) ((ch.length : Int) - k - i)) := box_ok r1 (by omega)
      refine q_set (M := M0) (D := none) (Ex.refl good0) (ev_c2 (R := RCh) (S := RHp) (b := List.replicate (k + 1) ((ch.length : Int) - k - i)) (er_var rfl (e.mo rc)) (EvR.eq (ev_c2 (er_toN (n := k + 1) (er_add (er_nat (er_var rfl (e.mo rk)) rfl) er_int) (by omega)) (er_var rfl r) (by omega)) eb) ⟨ok, tok⟩) fun z H1 e1 hz => ?_
      rcases hz with ⟨hz, hnone⟩ | ⟨fil, hfil, hok⟩
      · subst hz
        refine s_when (M := M0) (D := none) (p := fun b => b = false) (Ex.refl good0) (et_notN (ev_var rfl) fun v H' pv => by rw [pv]; rfl) (fun hb => by cases hb) fun _ H2 e2 => hN _ H2 (e1.trans e2) ⟨⟨_, _, rfl⟩, fun x hx => ?_⟩
        have h1 := hnone x hx.len.symm
        rw [KM.held_rep (KM.heapOf_heap _ _) k r1] at h1
        omega
      · have hne : z ≠ .non := fun h => by
          obtain ⟨_, _, h2, _⟩ := hfil
          rw [h] at h2
          cases h2
        refine s_when (M := M0) (D := none) (p := fun b => b = true) (Ex.refl good0) (et_notN (ev_var rfl) fun v H' pv => by rw [pv, decide_eq_false hne]; rfl) (fun _ H2 e2 => ?_) fun hb => by cases hb
        refine s_ret (Ex.refl good0) (ev_var rfl) fun v H3 e3 pv => ?_
        rw [pv]
        obtain ⟨x, tx, hx⟩ := fill_tup ok.rg hok
        refine q z H3 (((e.trans e1).trans e2).trans e3).toSame ⟨fil, _, (e2.trans e3).mo hfil, hok, r1, ⟨x, tx, (KM.held_rep (KM.heapOf_heap _ _) k r1).mp hx⟩, fun r' ⟨x', tx', hx'⟩ => ?_⟩
        have := hno x' tx'
        omega
    · rintro σ' H' e ⟨⟨a, b, rfl⟩, hno⟩
      exfalso
      obtain ⟨x, tx, hx⟩ := KM.has_one ok.rg hk
      have := hno x tx
      simp at this
      omega
end KX
namespace KX
open PySem PySem.Spec PyProof.Rows L2
def colD (l : List Nat) : PyData := .tuple (l.map fun (n : Nat) => .int (n : Int))
def filD (f : List (List Nat)) : PyData := .tuple (f.map colD)
theorem ints_lay : ∀ l : List Nat, PyData.canLayAll0 (l.map fun (n : Nat) => PyData.int (n : Int)) = true
  | [] => by simp [PyData.canLayAll0]
  | n :: l => by simp [PyData.canLayAll0, PyData.canLay0, ints_lay l]
theorem ints_dep : ∀ l : List Nat, PyData.depthAll (l.map fun (n : Nat) => PyData.int (n : Int)) ≤ 1
  | [] => by simp [PyData.depthAll]
  | n :: l => by
    have := ints_dep l
    simp only [List.map_cons, PyData.depthAll, PyData.depth]
    omega
theorem fil_lay : ∀ f : List (List Nat), PyData.canLayAll0 (f.map colD) = true
  | [] => by simp [PyData.canLayAll0]
  | l :: f => by
    simp only [List.map_cons, PyData.canLayAll0, colD, PyData.canLay0, ints_lay l, fil_lay f]
    rfl
theorem fil_dep : ∀ f : List (List Nat), PyData.depthAll (f.map colD) ≤ 2
  | [] => by simp [PyData.depthAll]
  | l :: f => by
    have h1 := ints_dep l
    have h2 := fil_dep f
    have h3 : (colD l).depth ≤ 2 := by
      simp only [colD, PyData.depth]
      omega
    simp only [List.map_cons, PyData.depthAll]
    omega
theorem fil_shaped (f : List (List Nat)) : SeqAt.shaped (filD f) = true := by
  have h1 := fil_dep f
  have h2 : (filD f).depth ≤ 64 := by
    simp only [filD, PyData.depth]
    omega
  show ((filD f).canLay0 && decide ((filD f).depth ≤ 64)) = true
  rw [Bool.and_eq_true]
  exact ⟨by simp only [filD, PyData.canLay0]; exact fil_lay f, decide_eq_true h2⟩
theorem dp_ints {K : PySem.W.Frag} {H : Hp} : ∀ {xs : List V} {l : List Nat}, Paired (RN H) xs l → DpAll K H xs (l.map fun (n : Nat) => .int (n : Int))
  | _, _, .nil => .nil
  | _, _, .cons r t => by rw [show _ = V.int _ from r]; exact .cons (.int _) (dp_ints t)
theorem dp_cols {K : PySem.W.Frag} {H : Hp} : ∀ {xs : List V} {f : List (List Nat)}, Paired (RT RN H) xs f → DpAll K H xs (f.map colD)
  | _, _, .nil => .nil
  | _, _, .cons ⟨a, ys, e, h, p⟩ t => by rw [e]; exact .cons (.tup (SqT.of h) (dp_ints p)) (dp_cols t)
theorem dp_fil {K : PySem.W.Frag} {H : Hp} {v : V} {f : List (List Nat)} (h : RFil H v f) : Dp K H v (filD f) := by
  obtain ⟨a, xs, e, h1, h2⟩ := h
  rw [e]
  exact .tup (SqT.of h1) (dp_cols h2)
section
variable {K : PySem.W.Frag} {M : Ads} {D : Option Addr} {σ : L2.St} {H : Hp} {ta tb : TE}
theorem et_neE {f : List (List Nat)} (ha : EvR M D ta σ H RFil f) (hb : EvR M D tb σ H RFil ([] : List (List Nat))) (hf : f ≠ []) : EvT M D (tTest (tOp (rNeD K) ta tb)) σ H fun b => b = true :=
  et_test (ev_op ha hb fun x y H1 e p q Q k => ⟨filD f, filD [], dp_fil p, dp_fil q, fil_shaped f, fil_shaped [], k _ H1 (Ex.refl e.good.m0) (by
    cases f with
    | nil => exact absurd rfl hf
    | cons l f =>
      show V.bl _ = V.bl _
      simp [filD, PyData.eqv, PyData.eqvAll])⟩)
end
variable {P : Program} {w : World} {K : PySem.W.Frag} {mg : Str → Option Value} {base : PySem.Heap} {A : Nat → Addr} {F : Nat → FuncData}
theorem ex_tup {ch : List KM.Rg} (ok : Cok ch) : ∃ x, KM.Tup ch x := ⟨_, KM.byDiag_tup (fun _ => 0) ch 0 ok.rg⟩
def sp_least_degree_in : Sp := sp2 RCh RN (fun ch _ => Cok5 ch) fun ch k v _ => v = .int (KM.best ch k)
theorem ok_least_degree_in (T : Prog K mg A F) : FnOk P w K mg base CX0 7 (A 38) (F 38) ["chain", "k"] sp_least_degree_in := by
  have G_filled_box := ok_filled_box (P := P) (w := w) (base := base) T
  have sc := sc_least_degree_in
  refine T.d_least_degree_in.ok sc_least_degree_in (fun vs H Q E h => ?_) (fun cdv _ outer s H vs Q E hr h => ?_)
  · obtain ⟨_, _, _, _, rfl, _⟩ := h
    rfl
  · obtain ⟨v, y, ch, k, rfl, rc, rk, ok5, q⟩ := h
    have ok := ok5.ok
    have h1 := ok.one
    refine ⟨_, (pss_cons (ps_if (pt_cmpR op_ge (pv 1) (pe_callB (k_len K rfl) (by rfl) T.len (by decide +kernel) (pa_cons (pv 0) pa_nil)) (nomark _)) (pss_one (ps_ret (pe_op op_add (pe_callB (k_len K rfl) (by rfl) T.len (by decide +kernel) (pa_cons (pv 0) pa_nil)) (pv 1)))) pss_nil)
      (pss_cons (ps_set (i := 2) sc.nd rfl (.inl rfl) (pe_call G_filled_box (hr.mono (by decide)) (by rfl) T.d_filled_box.at_ T.d_filled_box.fn.kp T.d_filled_box.bi .nil pass0 (pa_cons (pv 0) (pa_cons (pv 1) pa_nil))))
      (pss_one (ps_ret (pe_op op_sub (pe_op op_add (pe_callB (k_len K rfl) (by rfl) T.len (by decide +kernel) (pa_cons (pv 0) pa_nil)) (pv 1)) (pe_ifExp (pt_cmpR (k_neD K rfl hr.units) (pv 2) (pe_tup pa_nil) (nomark _)) (pe_callB (k_len K rfl) (by rfl) T.len (by decide +kernel) (pa_cons (pe_ix (k_ixT K rfl) (pv 2) pe_int (fun _ _ => rfl)) pa_nil)) pe_int)))))), ?_⟩
    refine q_when (M := M0) (D := none) e00 (et_test (er_ge (er_nat (er_var rfl rk) rfl) (er_nat (er_lenT (er_var rfl rc)) rfl))) (fun z H1 e1 => ?_) fun z H1 e1 => ?_
    · have hk : ch.length ≤ k := by simp at z; omega
      refine s_ret (Ex.refl good0) (er_add (er_nat (er_lenT (er_var rfl (e1.mo rc))) rfl) (er_nat (er_var rfl (e1.mo rk)) rfl)) fun v H2 e2 p => q v H2 (e1.trans e2).toSame ?_
      show v = V.int (KM.best ch k)
      rw [KM.best_great (ex_tup ok) ok.one hk]
      exact p
    · have hk : k < ch.length := by simp at z; omega
      refine q_set (M := M0) (D := none) (Ex.refl good0) (ev_c2 (er_var rfl (e1.mo rc)) (er_var rfl (e1.mo rk)) ⟨ok5, hk⟩) fun z2 H2 e2 ⟨fil, r, rf, fo, mx⟩ => ?_
      have e12 := e1.trans e2
      have hne : fil ≠ [] := fun h => by
        have := fo.cols
        rw [h] at this
        simp at this
      obtain ⟨l0, fil', rfl⟩ := List.exists_cons_of_ne_nil hne
      have hl := fo.lens 0 l0 rfl
      rw [KM.hgt_rep, if_pos (by omega)] at hl
      refine s_ret (Ex.refl good0) (er_sub (er_add (er_nat (er_lenT (er_var rfl (e12.mo rc))) rfl) (er_nat (er_var rfl (e12.mo rk)) rfl)) (ev_if (et_neE (er_var rfl rf) er_tup0 hne) (fun _ => er_nat (i := r) (er_lenT (er_ixT (R := RT RN) (j := 0) (a := l0) (er_var rfl rf) er_int rfl rfl)) hl) fun z => by cases z)) fun v H3 e3 p => q v H3 (e12.trans e3).toSame ?_
      show v = V.int (KM.best ch k)
      rw [KM.best_max hk mx]
      exact p
def sp_require_richness : Sp := sp2 RCh RN (fun ch k => Cok ch ∧ k ≤ 40) fun _ _ v _ => v = .non
theorem ok_require_richness (T : Prog K mg A F) : FnOk P w K mg base CX0 6 (A 42) (F 42) ["chain", "k"] sp_require_richness := by
  have G_is_within := ok_is_within (P := P) (w := w) (base := base) T
  have G_require_chain := ok_require_chain (P := P) (w := w) (base := base) T
  have sc := sc_require_richness
  refine T.d_require_richness.ok sc_require_richness (fun vs H Q E h => ?_) (fun cdv _ outer s H vs Q E hr h => ?_)
  · obtain ⟨_, _, _, _, rfl, _⟩ := h
    rfl
  · obtain ⟨v, y, ch, k, rfl, rc, rk, ⟨ok, hk⟩, q⟩ := h
    refine ⟨_, (pss_cons (ps_expr (pe_call G_require_chain (hr.mono (by decide)) (by rfl) T.d_require_chain.at_ T.d_require_chain.fn.kp T.d_require_chain.bi .nil pass0 (pa_cons (pv 0) pa_nil)))
      (pss_one (ps_if (pt_not (pt_val (pe_call G_is_within (hr.mono (by decide)) (by rfl) T.d_is_within.at_ T.d_is_within.fn.kp T.d_is_within.bi .nil pass0 (pa_cons (pv 1) (pa_cons pe_int (pa_cons (pe_glob (v := .int 40) rfl T.c_MOST_RICH.choose_spec ⟨_, rfl⟩) pa_nil)))))) (pss_one ps_never) pss_nil))), ?_⟩
    refine q_drop (M := M0) (D := none) e00 (ev_c1 (er_var rfl rc) ok) fun _ H1 e1 _ => ?_
    refine s_when (M := M0) (D := none) (Ex.refl good0) (et_not (et_B (ev_c3 (a := A0.int (k : Int)) (er_var (R := RA0) rfl (show RA0 H1 y (.int (k : Int)) from rk)) er_int er_int trivial))) (fun z => ?_) fun _ H2 e2 => q _ H2 (e1.trans e2).toSame rfl
    rw [isW_i] at z
    simp at z
    omega
def sp_least_degree : Sp := sp2 RCh RN (fun ch k => Cok5 ch ∧ k ≤ 40) fun ch k v _ => v = .int (KM.best ch k)
theorem ok_least_degree (T : Prog K mg A F) : FnOk P w K mg base CX0 8 (A 46) (F 46) ["chain", "k"] sp_least_degree := by
  have G_least_degree_in := ok_least_degree_in (P := P) (w := w) (base := base) T
  have G_require_richness := ok_require_richness (P := P) (w := w) (base := base) T
  have sc := sc_least_degree
  refine T.d_least_degree.ok sc_least_degree (fun vs H Q E h => ?_) (fun cdv _ outer s H vs Q E hr h => ?_)
  · obtain ⟨_, _, _, _, rfl, _⟩ := h
    rfl
  · obtain ⟨v, y, ch, k, rfl, rc, rk, ⟨ok5, hk⟩, q⟩ := h
    refine ⟨_, (pss_cons (ps_expr (pe_call G_require_richness (hr.mono (by decide)) (by rfl) T.d_require_richness.at_ T.d_require_richness.fn.kp T.d_require_richness.bi .nil pass0 (pa_cons (pv 0) (pa_cons (pv 1) pa_nil))))
      (pss_one (ps_ret (pe_call G_least_degree_in (hr.mono (by decide)) (by rfl) T.d_least_degree_in.at_ T.d_least_degree_in.fn.kp T.d_least_degree_in.bi .nil pass0 (pa_cons (pv 0) (pa_cons (pv 1) pa_nil)))))), ?_⟩
    refine q_drop (M := M0) (D := none) e00 (ev_c2 (er_var rfl rc) (er_var rfl rk) ⟨ok5.ok, hk⟩) fun _ H1 e1 _ => ?_
    exact s_ret (M := M0) (D := none) (Ex.refl good0) (ev_c2 (er_var rfl (e1.mo rc)) (er_var rfl (e1.mo rk)) ok5) fun v H2 e2 p => q v H2 (e1.trans e2).toSame p
def sp_least_class : Sp := sp2 RCh RN (fun ch k => Cok5 ch ∧ k ≤ 40) fun ch k v H' => ∃ x, RP RI RHp H' v (KM.best ch k, x) ∧ KM.Tup ch x ∧ KM.richGE (KM.heapOf ch x) ch.length (KM.best ch k) k = true
theorem rep_tup : ∀ {ch : List KM.Rg}, (∀ r ∈ ch, KM.RgOk r) → KM.Tup ch (List.replicate ch.length 0)
  | [], _ => True.intro
  | r :: ch, h => ⟨by have := (h r (List.mem_cons_self ..)).two; omega, rep_tup fun s hs => h s (List.mem_cons_of_mem _ hs)⟩
theorem ok_least_class (T : Prog K mg A F) : FnOk P w K mg base CX0 8 (A 45) (F 45) ["chain", "k"] sp_least_class := by
  have G_filled_box := ok_filled_box (P := P) (w := w) (base := base) T
  have G_least_degree_in := ok_least_degree_in (P := P) (w := w) (base := base) T
  have G_require_richness := ok_require_richness (P := P) (w := w) (base := base) T
  have G_tuple_of_filling := ok_tuple_of_filling (P := P) (w := w) (base := base) T
  have sc := sc_least_class
  refine T.d_least_class.ok sc_least_class (fun vs H Q E h => ?_) (fun cdv _ outer s H vs Q E hr h => ?_)
  · obtain ⟨_, _, _, _, rfl, _⟩ := h
    rfl
  · obtain ⟨v, y, ch, k, rfl, rc, rk, ⟨ok5, hk40⟩, q⟩ := h
    have ok := ok5.ok
    have h12 := ok.most
    refine ⟨_, (pss_cons (ps_expr (pe_call G_require_richness (hr.mono (by decide)) (by rfl) T.d_require_richness.at_ T.d_require_richness.fn.kp T.d_require_richness.bi .nil pass0 (pa_cons (pv 0) (pa_cons (pv 1) pa_nil))))
      (pss_cons (ps_if (pt_cmpR op_ge (pv 1) (pe_callB (k_len K rfl) (by rfl) T.len (by decide +kernel) (pa_cons (pv 0) pa_nil)) (nomark _)) (pss_one (ps_ret (pe_tup (pa_cons (pe_op op_add (pe_callB (k_len K rfl) (by rfl) T.len (by decide +kernel) (pa_cons (pv 0) pa_nil)) (pv 1)) (pa_cons (pe_callTy (k_tupOf K rfl) (by rfl) T.tuple (by decide +kernel) (pa_cons (pe_op op_rep (pe_lst (pa_cons pe_int pa_nil)) (pe_callB (k_len K rfl) (by rfl) T.len (by decide +kernel) (pa_cons (pv 0) pa_nil))) pa_nil)) pa_nil))))) pss_nil)
      (pss_one (ps_ret (pe_tup (pa_cons (pe_call G_least_degree_in (hr.mono (by decide)) (by rfl) T.d_least_degree_in.at_ T.d_least_degree_in.fn.kp T.d_least_degree_in.bi .nil pass0 (pa_cons (pv 0) (pa_cons (pv 1) pa_nil))) (pa_cons (pe_call G_tuple_of_filling (hr.mono (by decide)) (by rfl) T.d_tuple_of_filling.at_ T.d_tuple_of_filling.fn.kp T.d_tuple_of_filling.bi .nil pass0 (pa_cons (pv 0) (pa_cons (pe_call G_filled_box (hr.mono (by decide)) (by rfl) T.d_filled_box.at_ T.d_filled_box.fn.kp T.d_filled_box.bi .nil pass0 (pa_cons (pv 0) (pa_cons (pv 1) pa_nil))) pa_nil))) pa_nil))))))), ?_⟩
    refine q_drop (M := M0) (D := none) e00 (ev_c2 (er_var rfl rc) (er_var rfl rk) ⟨ok, hk40⟩) fun _ H1 e1 _ => ?_
    have rc := e1.mo rc
    have rk := e1.mo rk
    refine q_when (M := M0) (D := none) (Ex.refl good0) (et_test (er_ge (er_nat (er_var rfl rk) rfl) (er_nat (er_lenT (er_var rfl rc)) rfl))) (fun z H2 e2 => ?_) fun z H2 e2 => ?_
    · have hk : ch.length ≤ k := by simp at z; omega
      have rc := e2.mo rc
      have rk := e2.mo rk
      refine s_ret (M := M0) (D := none) (Ex.refl good0) (er_pair (er_add (er_nat (er_lenT (er_var rfl rc)) rfl) (er_nat (er_var rfl rk) rfl)) (er_tupL (el_rep (n := ch.length) (el_one (R := RI) er_int) (er_nat (er_lenT (er_var rfl rc)) rfl) rfl (by omega)))) fun v H3 e3 p => q v H3 ((e1.trans e2).trans e3).toSame ⟨List.replicate ch.length 0, ?_, rep_tup ok.rg, KM.rich_great (ex_tup ok) ok.one hk _⟩
      rw [KM.best_great (ex_tup ok) ok.one hk]
      exact p
    · have hk : k < ch.length := by simp at z; omega
      have rc := e2.mo rc
      have rk := e2.mo rk
      refine s_ret (M := M0) (D := none) (P := fun v H' => ∃ x, RP RI RHp H' v (KM.best ch k, x) ∧ KM.Tup ch x ∧ KM.richGE (KM.heapOf ch x) ch.length (KM.best ch k) k = true) (Ex.refl good0) ?_ fun v H3 e3 p => q v H3 ((e1.trans e2).trans e3).toSame p
      refine ev_tup (Pa := fun vs H' => ∃ a b x, vs = [a, b] ∧ RI H' a (KM.best ch k) ∧ RHp H' b x ∧ KM.Tup ch x ∧ KM.richGE (KM.heapOf ch x) ch.length (KM.best ch k) k = true) ?_ (fun vs _ ⟨_, _, _, e, _⟩ => by rw [e]; show 2 ≤ 100000; decide) fun vs Ha a Hb ⟨b1, b2, x, e, p1, p2, p3, p4⟩ kk hh => ⟨x, ⟨a, b1, b2, rfl, by rw [hh, e], p1, Mo.mono kk p2⟩, p3, p4⟩
      intro H3 e3 Q qq
      refine ev_c2 (M := M0) (D := none) (er_var rfl (e3.mo rc)) (er_var rfl (e3.mo rk)) ok5 H3 (Ex.refl good0) _ fun a H4 e4 pa => ?_
      have e34 := e3.trans e4
      refine ev_call (M := M0) (D := none) (P := fun v H' => ∃ x, RHp H' v x ∧ KM.Tup ch x ∧ KM.richGE (KM.heapOf ch x) ch.length (KM.best ch k) k = true) (ea_cons (er_var rfl (e34.mo rc)) (ea_one (ev_c2 (er_var rfl (e34.mo rc)) (er_var rfl (e34.mo rk)) ⟨ok5, hk⟩))) (fun vs H5 e5 ⟨c1, r1, ev, rc5, c2, ev2, fil, r, rf, fo, mx⟩ Q2 q2 => ⟨c1, c2, ch, fil, by rw [ev, ev2]; rfl, rc5, rf, ⟨ok, _, fo, by simp; omega⟩, fun u H6 s6 ⟨x, x1, x2, x3⟩ => q2 u H6 (Ex.same e5.good.m0 s6) ⟨x, x1, x2, ?_⟩⟩) H4 (Ex.refl good0) _ fun b H5 e5 ⟨x, x1, x2, x3⟩ => qq [a, b] H5 (e4.trans e5) ⟨a, b, x, rfl, pa, x1, x2, x3⟩
      exact (KM.rich_best hk mx (KM.heapOf_heap _ _)).mpr ((KM.held_rep (KM.heapOf_heap _ _) k mx.one).mp (x3 _ fo))
def leastB (ch : List KM.Rg) (k : Nat) : A1 → Bool
  | .tup [.int d, .tupi x] => clsA ch (.tup [.int d, .tupi x]) && decide (d = KM.best ch k) && KM.richGE (KM.heapOf ch x) ch.length (KM.best ch k) k
  | _ => false
theorem leastB_t (ch : List KM.Rg) (k : Nat) (d : Int) (x : List Int) : leastB ch k (.tup [.int d, .tupi x]) = (clsA ch (.tup [.int d, .tupi x]) && decide (d = KM.best ch k) && KM.richGE (KM.heapOf ch x) ch.length (KM.best ch k) k) := rfl
theorem cls_false {ch : List KM.Rg} {k : Nat} {a : A1} (h : clsA ch a = false) : leastB ch k a = false := by
  unfold leastB
  split
  · rw [h]; rfl
  · rfl
theorem cls_true {ch : List KM.Rg} {a : A1} (h : clsA ch a = true) : ∃ d x, a = .tup [.int d, .tupi x] ∧ x.length = ch.length := by
  unfold clsA at h
  split at h
  · rename_i x0 x1
    rw [Bool.and_eq_true] at h
    cases x0 with
    | int d =>
      cases x1 with
      | tupi x =>
        have := h.2
        rw [tupA_t, Bool.and_eq_true] at this
        exact ⟨d, x, rfl, of_decide_eq_true this.1⟩
      | _ => cases h.2
    | _ => cases h.1
  · cases h
theorem rich_box {ch : List KM.Rg} (ok : Cok ch) {k : Nat} (x : List Int) : KM.holdsB (KM.heapOf ch x) (boxI (k + 1) ((ch.length : Int) - KM.best ch k + k)) = KM.richGE (KM.heapOf ch x) ch.length (KM.best ch k) k := by
  by_cases hk : k < ch.length
  · obtain ⟨r, mx⟩ := KM.max_ex (KM.has_one ok.rg hk)
    have hb := KM.best_max hk mx
    have h1 := mx.one
    have e1 : (ch.length : Int) - KM.best ch k + k = r := by rw [hb]; omega
    have e2 : boxI (k + 1) r = List.replicate (k + 1) r := by
      unfold boxI
      rw [if_pos (by omega)]
    rw [e1, e2, Bool.eq_iff_iff, KM.holdsB_iff (KM.heapOf_heap _ _) (KM.rep_heap _ h1), KM.held_rep (KM.heapOf_heap _ _) k h1, KM.rich_best hk mx (KM.heapOf_heap _ _)]
  · have hb := KM.best_great (ex_tup ok) ok.one (Nat.le_of_not_lt hk)
    have e1 : (ch.length : Int) - KM.best ch k + k = 0 := by rw [hb]; omega
    have e2 : boxI (k + 1) 0 = [] := by
      unfold boxI
      rw [if_neg (by omega)]
    rw [e1, e2, KM.rich_great (ex_tup ok) ok.one (Nat.le_of_not_lt hk)]
    unfold KM.holdsB
    simp
def sp_is_least_class : Sp := sp3 RCh RN RA1 (fun ch k a => Cok5 ch ∧ k ≤ 40 ∧ ∀ l, a ≠ .a0 (.tupi l)) fun ch k a v _ => v = .bl (leastB ch k a)
theorem ok_is_least_class (T : Prog K mg A F) : FnOk P w K mg base CX0 8 (A 43) (F 43) ["chain", "k", "value"] sp_is_least_class := by
  have G_is_class_in := ok_is_class_in (P := P) (w := w) (base := base) T
  have G_is_rich_in := ok_is_rich_in (P := P) (w := w) (base := base) T
  have G_least_degree_in := ok_least_degree_in (P := P) (w := w) (base := base) T
  have G_require_richness := ok_require_richness (P := P) (w := w) (base := base) T
  have sc := sc_is_least_class
  refine T.d_is_least_class.ok sc_is_least_class (fun vs H Q E h => ?_) (fun cdv _ outer s H vs Q E hr h => ?_)
  · obtain ⟨_, _, _, _, _, _, rfl, _⟩ := h
    rfl
  · obtain ⟨v, y, z, ch, k, a, rfl, rc, rk, ra, ⟨ok5, hk40, nt⟩, q⟩ := h
    have ok := ok5.ok
    refine ⟨_, (pss_cons (ps_expr (pe_call G_require_richness (hr.mono (by decide)) (by rfl) T.d_require_richness.at_ T.d_require_richness.fn.kp T.d_require_richness.bi .nil pass0 (pa_cons (pv 0) (pa_cons (pv 1) pa_nil))))
      (pss_cons (ps_if (PW.pt (pw_or (pt_not (pt_val (pe_call G_is_class_in (hr.mono (by decide)) (by rfl) T.d_is_class_in.at_ T.d_is_class_in.fn.kp T.d_is_class_in.bi .nil pass0 (pa_cons (pv 0) (pa_cons (pv 2) pa_nil))))) (pw_or1 (pt_cmpR op_ne (pe_ix (k_ixT K rfl) (pv 2) pe_int (fun _ _ => rfl)) (pe_call G_least_degree_in (hr.mono (by decide)) (by rfl) T.d_least_degree_in.at_ T.d_least_degree_in.fn.kp T.d_least_degree_in.bi .nil pass0 (pa_cons (pv 0) (pa_cons (pv 1) pa_nil))) (nomark _))))) (pss_one (ps_ret pe_bl)) pss_nil)
      (pss_one (ps_ret (pe_call G_is_rich_in (hr.mono (by decide)) (by rfl) T.d_is_rich_in.at_ T.d_is_rich_in.fn.kp T.d_is_rich_in.bi .nil pass0 (pa_cons (pv 0) (pa_cons (pe_ix (k_ixT K rfl) (pv 2) pe_int (fun _ _ => rfl)) (pa_cons (pe_ix (k_ixT K rfl) (pv 2) pe_int (fun _ _ => rfl)) (pa_cons (pv 1) pa_nil))))))))), ?_⟩
    refine q_drop (M := M0) (D := none) e00 (ev_c2 (er_var rfl rc) (er_var rfl rk) ⟨ok, hk40⟩) fun _ H1 e1 _ => ?_
    have rc := e1.mo rc
    have rk := e1.mo rk
    have ra := e1.mo ra
    cases hc : clsA ch a with
    | false =>
      refine q_when (M := M0) (D := none) (Ex.refl good0) (et_or (a := !false) (b := true) (et_not (et_B (EvR.eq (ev_c2 (er_var rfl rc) (er_var rfl ra) ⟨ok, nt⟩) hc))) fun z => by cases z) (fun _ H2 e2 => ?_) fun z => by cases z
      refine s_ret (M := M0) (D := none) (Ex.refl good0) er_bl fun v H3 e3 p => q v H3 ((e1.trans e2).trans e3).toSame ?_
      show v = .bl (leastB ch k a)
      rw [cls_false hc]
      exact p
    | true =>
      obtain ⟨d, x, rfl, hx⟩ := cls_true hc
      have rl : RT RA0 H1 z [.int d, .tupi x] := ra
      have i0 : ∀ {H2 : Hp}, RT RA0 H2 z [.int d, .tupi x] → EvR M0 none (tOp (rIxT K) (tVar 2) (tC (.int 0))) [some v, some y, some z] H2 RI d := fun h => er_ixT (R := RA0) (j := 0) (a := A0.int d) (er_var rfl h) er_int rfl rfl
      refine q_when (M := M0) (D := none) (Ex.refl good0) (et_or (et_not (et_B (EvR.eq (ev_c2 (er_var rfl rc) (er_var rfl ra) ⟨ok, nt⟩) hc))) fun _ => et_test (er_ne (i0 rl) (ev_c2 (er_var rfl rc) (er_var rfl rk) ok5))) (fun zz H2 e2 => ?_) fun zz H2 e2 => ?_
      · refine s_ret (M := M0) (D := none) (Ex.refl good0) er_bl fun v H3 e3 p => q v H3 ((e1.trans e2).trans e3).toSame ?_
        show v = .bl (leastB ch k (.tup [.int d, .tupi x]))
        rw [leastB_t]
        have hd : ¬ d = KM.best ch k := by simpa using zz
        rw [decide_eq_false hd, Bool.and_false, Bool.false_and]
        exact p
      · have hd : d = KM.best ch k := by simpa using zz
        subst hd
        have rl := e2.mo rl
        refine s_ret (M := M0) (D := none) (Ex.refl good0) (ev_c4 (er_var rfl (e2.mo rc)) (i0 rl) (er_ixT (R := RA0) (j := 1) (a := A0.tupi x) (er_var rfl rl) er_int rfl rfl) (er_var rfl (e2.mo rk)) ⟨ok, hx.symm, by omega⟩) fun v H3 e3 p => q v H3 ((e1.trans e2).trans e3).toSame ?_
        show v = .bl (leastB ch k (.tup [.int (KM.best ch k), .tupi x]))
        rw [leastB_t, hc, decide_eq_true rfl, Bool.true_and, Bool.true_and, ← rich_box ok]
        exact p
end KX
namespace KX
open PySem PySem.Spec PyProof.Rows L2
/-! ### ints of which little is told -/
section
variable {K : PySem.W.Frag} {M : Ads} {D : Option Addr} {σ : L2.St} {H H0 Hb H' : Hp} {ta tb tc td te : TE} {α β γ : Type} {R : Rel α} {S : Rel β} {B : Ends} {tz tu : TS} {q d a : Addr} {p p' r : Int → Prop}
abbrev EvP (M : Ads) (D : Option Addr) (te : TE) (σ : L2.St) (H : Hp) (p : Int → Prop) : Prop := Ev M D te σ H fun v _ => ∃ i, v = .int i ∧ p i
instance {p : Int → Prop} : MoP (fun v (_ : Hp) => ∃ i, v = V.int i ∧ p i) := ⟨fun _ h => h⟩
theorem ep_of {i : Int} (h : EvR M D te σ H RI i) (hp : p i) : EvP M D te σ H p := h.imp fun v _ e => ⟨i, e, hp⟩
theorem ep_var {i : Nat} {j : Int} (h : σ[i]? = some (some (.int j))) (hp : p j) : EvP M D (tVar i) σ H p := ep_of (er_var (R := RI) h rfl) hp
theorem ep_op0 {g : Int → Int → Int} (ha : EvP M D ta σ H p) (hb : EvP M D tb σ H p') (h : ∀ i j, p i → p' j → r (g i j)) : EvP M D (tOp (rI0 fun i j => .int (g i j)) ta tb) σ H r :=
  ev_op ha hb fun x y H1 e ⟨i, e1, p1⟩ ⟨j, e2, p2⟩ Q k => ⟨i, j, e1, e2, k _ H1 (Ex.refl e.good.m0) ⟨_, rfl, h i j p1 p2⟩⟩
theorem ep_opC {C : Int → Int → Prop} {g : Int → Int → Int} (ha : EvP M D ta σ H p) (hb : EvP M D tb σ H p') (hc : ∀ i j, p i → p' j → C i j) (h : ∀ i j, p i → p' j → r (g i j)) : EvP M D (tOp (rI C fun i j => .int (g i j)) ta tb) σ H r :=
  ev_op ha hb fun x y H1 e ⟨i, e1, p1⟩ ⟨j, e2, p2⟩ Q k => ⟨i, j, e1, e2, hc i j p1 p2, k _ H1 (Ex.refl e.good.m0) ⟨_, rfl, h i j p1 p2⟩⟩
theorem ep_int {i : Int} (hp : p i) : EvP M D (tC (.int i)) σ H p := ep_of er_int hp
/-- one of the dice -/
theorem ep_dice {j : Int} (hj : j = 0 ∨ j = 1 ∨ j = 2) (hd : D = some d) (ha : Ev M D ta σ H fun v _ => v = .ref d) (hp : ∀ i, p i) : EvP M D (tOp (rIxL K) ta (tC (.int j))) σ H p := fun H1 e Q q =>
  ha H1 e _ fun v H2 e2 pv => by
    obtain ⟨x, y, z, hh⟩ := e2.good.dice d hd
    rcases hj with rfl | rfl | rfl
    · exact ⟨d, [.int x, .int y, .int z], 0, .int x, pv, rfl, SqL.of hh, atI_nat (j := 0) rfl, q _ H2 e2 ⟨x, rfl, hp x⟩⟩
    · exact ⟨d, [.int x, .int y, .int z], 1, .int y, pv, rfl, SqL.of hh, atI_nat (j := 1) rfl, q _ H2 e2 ⟨y, rfl, hp y⟩⟩
    · exact ⟨d, [.int x, .int y, .int z], 2, .int z, pv, rfl, SqL.of hh, atI_nat (j := 2) rfl, q _ H2 e2 ⟨z, rfl, hp z⟩⟩
/-- a die is set -/
theorem q_die {j : Int} (hj : j = 0 ∨ j = 2) (hd : D = some d) (g : Good M0 D H) (h : EvP M0 D te σ H p) (ha : Ev M0 D ta σ H fun v _ => v = .ref d) (k : ∀ H2, Ex M0 D H H2 → tz B σ H2) : tSeq (tAsg te (gSub ta (tC (.int j)) rSetL)) tz B σ H :=
  h H (Ex.refl g) _ fun v H1 e1 ⟨i, ev, _⟩ => ha H1 e1 _ fun x H2 e2 px => by
    obtain ⟨x0, y0, z0, hh⟩ := e2.good.dice d hd
    subst ev
    rcases hj with rfl | rfl
    · exact ⟨d, _, 0, 0, px, rfl, hh, rfl, k _ ((e1.trans e2).roll hd (fun z => z))⟩
    · exact ⟨d, _, 2, 2, px, rfl, hh, rfl, k _ ((e1.trans e2).roll hd (fun z => z))⟩
end
/-! ### promises of defs that are handed the dice -/
def spd1 {α : Type} (R : Rel α) (pre : α → Prop) (post : α → V → Hp → Prop) : Sp := fun vs H Q _ => ∃ d v a, vs = [.ref d, v] ∧ DiceAt H d ∧ R H v a ∧ pre a ∧ ∀ u H', Ex M0 (some d) H H' → post a u H' → Q u H'
def spd2 {α β : Type} (R : Rel α) (S : Rel β) (pre : α → β → Prop) (post : α → β → V → Hp → Prop) : Sp := fun vs H Q _ => ∃ d v w a b, vs = [.ref d, v, w] ∧ DiceAt H d ∧ R H v a ∧ S H w b ∧ pre a b ∧ ∀ u H', Ex M0 (some d) H H' → post a b u H' → Q u H'
theorem goodD {H : Hp} {d : Addr} (h : DiceAt H d) : Good M0 (some d) H := ⟨fun _ z => z.elim, fun a e => by cases e; exact h⟩
section
variable {K : PySem.W.Frag} {M : Ads} {σ : L2.St} {H : Hp} {t0 ta tb : TE} {α β : Type} {R : Rel α} {S : Rel β} {d : Addr}
instance {d : Addr} : MoP (fun v (_ : Hp) => v = V.ref d) := ⟨fun _ h => h⟩
theorem ev_d1 {pre : α → Prop} {post : α → V → Hp → Prop} {a : α} (h0 : Ev M (some d) t0 σ H fun v _ => v = .ref d) (h1 : EvR M (some d) ta σ H R a) (hp : pre a) : Ev M (some d) (tCall (spd1 R pre post) [] E0 (tCons t0 (tCons ta tNil))) σ H (post a) :=
  ev_call (ea_cons h0 (ea_one h1)) fun vs H1 e ⟨x, r, ev, ex, v, ev2, p1⟩ Q q => ⟨d, v, a, by rw [ev, ev2, ex]; rfl, e.good.dice d rfl, p1, hp, fun u H' e2 p => q u H' e2 p⟩
theorem ev_d2 [Mo R] {pre : α → β → Prop} {post : α → β → V → Hp → Prop} {a : α} {b : β} (h0 : Ev M (some d) t0 σ H fun v _ => v = .ref d) (h1 : EvR M (some d) ta σ H R a) (h2 : EvR M (some d) tb σ H S b) (hp : pre a b) : Ev M (some d) (tCall (spd2 R S pre post) [] E0 (tCons t0 (tCons ta (tCons tb tNil)))) σ H (post a b) :=
  ev_call (ea_cons h0 (ea_cons h1 (ea_one h2))) fun vs H1 e ⟨x, r, ev, ex, v, r2, ev2, p1, w, ev3, p2⟩ Q q => ⟨d, v, w, a, b, by rw [ev, ev2, ev3, ex]; rfl, e.good.dice d rfl, p1, p2, hp, fun u H' e2 p => q u H' e2 p⟩
end
variable {P : Program} {w : World} {K : PySem.W.Frag} {mg : Str → Option Value} {base : PySem.Heap} {A : Nat → Addr} {F : Nat → FuncData}
def RollIs (t : Int) (v : V) : Prop := ∃ r : Nat, v = .int (r : Int) ∧ (r : Int) < t
def sp__law_roll : Sp := spd1 RI (fun t => 1 ≤ t ∧ t ≤ 100000) fun t v _ => RollIs t v
theorem ok__law_roll (T : Prog K mg A F) : FnOk P w K mg base CX0 1 (A 7) (F 7) ["_law_dice_here", "_law_total"] sp__law_roll := by
  have sc := sc__law_roll
  refine T.d__law_roll.ok sc__law_roll (fun vs H Q E h => ?_) (fun cdv _ outer s H vs Q E hr h => ?_)
  · obtain ⟨_, _, _, rfl, _⟩ := h
    rfl
  · obtain ⟨d, v, t, rfl, hd, rt, ⟨h1, h2⟩, q⟩ := h
    have g := goodD hd
    have e0 : Ex M0 (some d) H H := Ex.refl g
    refine ⟨_, (pss_cons (ps_set (i := 2) sc.nd rfl (.inl rfl) (pe_callTy call_int1 (by rfl) T.int (by decide +kernel) (pa_cons (pv 1) pa_nil)))
      (pss_cons (ps_if (pt_cmpR op_gt (pe_ix (k_ixL K rfl) (pv 0) pe_int (fun _ _ => rfl)) pe_int (nomark _)) (pss_cons (ps_set (i := 3) sc.nd rfl (.inl rfl) (pe_op op_mod (pe_ix (k_ixL K rfl) (pv 0) pe_int (fun _ _ => rfl)) (pv 2)))
      (pss_cons (ps_asg (pe_op op_fdiv (pe_ix (k_ixL K rfl) (pv 0) pe_int (fun _ _ => rfl)) (pv 2)) (pg_sub (pv 0) pe_int set_list))
      (pss_one (ps_ret (pe_callTy call_int1 (by rfl) T.int (by decide +kernel) (pa_cons (pv 3) pa_nil)))))) pss_nil)
      (pss_cons (ps_asg (pe_op op_add (pe_ix (k_ixL K rfl) (pv 0) pe_int (fun _ _ => rfl)) pe_int) (pg_sub (pv 0) pe_int set_list))
      (pss_cons (ps_set (i := 4) sc.nd rfl (.inl rfl) (pe_op op_mod (pe_op op_add (pe_ix (k_ixL K rfl) (pv 0) pe_int (fun _ _ => rfl)) (pe_op op_mul pe_int (pe_ix (k_ixL K rfl) (pv 0) pe_int (fun _ _ => rfl)))) pe_int))
      (pss_cons (ps_set (i := 5) sc.nd rfl (.inl rfl) (pe_op op_add (pe_op op_mul (pe_op op_mod (pe_op op_mul (pv 4) (pv 4)) pe_int) (pv 4)) (pe_op op_mul pe_int (pe_ix (k_ixL K rfl) (pv 0) pe_int (fun _ _ => rfl)))))
      (pss_cons (ps_set (i := 5) sc.nd rfl (.inl rfl) (pe_op op_mod (pv 5) pe_int))
      (pss_one (ps_ret (pe_callTy call_int1 (by rfl) T.int (by decide +kernel) (pa_cons (pe_op op_mod (pe_op op_fdiv (pv 5) pe_int) (pv 2)) pa_nil)))))))))), ?_⟩
    refine q_set e0 (er_inti (er_var rfl rt)) fun vs H1 e1 ps => ?_
    have ps : vs = .int t := ps
    subst ps
    refine q_when (M := M0) (D := some d) (p := fun _ => True) (Ex.refl e1.good) ?_ (fun _ H2 e2 => ?_) fun _ H2 e2 => ?_
    · intro H2 e2 Q qq
      refine (ep_dice (p := fun _ => True) (j := 0) (.inl rfl) rfl (ev_var rfl) fun _ => True.intro) H2 e2 _ fun v H3 e3 ⟨i, ev, _⟩ => ⟨i, 0, ev, rfl, decide (0 < i), rfl, qq _ H3 e3 True.intro⟩
    · refine q_set (M := M0) (D := some d) (P := fun v _ => ∃ i, v = .int i ∧ 0 ≤ i ∧ i < t) (Ex.refl e2.good) (ep_opC (p := fun _ => True) (p' := fun j => j = t) (ep_dice (.inl rfl) rfl (ev_var rfl) fun _ => True.intro) (ep_var rfl rfl) (fun i j _ hj => by rw [hj]; omega) (fun i j _ hj => ?_)) fun vd H3 e3 ⟨i, ev, hi⟩ => ?_
      · rw [hj]
        exact ⟨Int.emod_nonneg _ (by omega), Int.emod_lt_of_pos _ (by omega)⟩
      · subst ev
        refine q_die (p := fun _ => True) (j := 0) (.inl rfl) rfl e3.good (ep_opC (p := fun _ => True) (p' := fun j => j = t) (ep_dice (.inl rfl) rfl (ev_var rfl) fun _ => True.intro) (ep_var rfl rfl) (fun i j _ hj => by rw [hj]; exact ⟨by omega, by omega⟩) fun _ _ _ _ => True.intro) (ev_var rfl) fun H4 e4 => ?_
        refine s_ret (M := M0) (D := some d) (Ex.refl e4.good) (er_inti (er_var (R := RI) rfl rfl)) fun v H5 e5 p => q v H5 ((((e1.trans e2).trans e3).trans e4).trans e5) ⟨i.toNat, ?_, by omega⟩
        rw [show v = .int i from p, show ((i.toNat : Nat) : Int) = i by omega]
    · refine q_die (p := fun _ => True) (j := 2) (.inr rfl) rfl e2.good (ep_op0 (p := fun _ => True) (p' := fun _ => True) (ep_dice (.inr (.inr rfl)) rfl (ev_var rfl) fun _ => True.intro) (ep_int True.intro) fun _ _ _ _ => True.intro) (ev_var rfl) fun H3 e3 => ?_
      refine q_set (M := M0) (D := some d) (P := fun v _ => ∃ i, v = .int i ∧ 0 ≤ i ∧ i < 2305843009213693951) (Ex.refl e3.good) (ep_opC (p := fun _ => True) (p' := fun j => j = 2305843009213693951) (ep_op0 (p := fun _ => True) (p' := fun _ => True) (ep_dice (.inr (.inl rfl)) rfl (ev_var rfl) fun _ => True.intro) (ep_opC (p := fun j => j = 1000409) (p' := fun _ => True) (ep_int rfl) (ep_dice (.inr (.inr rfl)) rfl (ev_var rfl) fun _ => True.intro) (fun i j hi _ => .inl (by rw [hi]; decide)) fun _ _ _ _ => True.intro) fun _ _ _ _ => True.intro) (ep_int rfl) (fun i j _ hj => by rw [hj]; decide) (fun i j _ hj => ?_)) fun v1 H4 e4 ⟨i, ev, hi⟩ => ?_
      · rw [hj]
        exact ⟨Int.emod_nonneg _ (by decide), Int.emod_lt_of_pos _ (by decide)⟩
      · subst ev
        refine q_set (M := M0) (D := some d) (P := fun v _ => ∃ i, v = .int i ∧ True) (Ex.refl e4.good) (ep_op0 (p := fun _ => True) (p' := fun _ => True) (ep_opC (p := fun _ => True) (p' := fun j => j = i) (ep_opC (p := fun _ => True) (p' := fun j => j = 2305843009213693921) (ep_opC (p := fun j => j = i) (p' := fun j => j = i) (ep_var rfl rfl) (ep_var rfl rfl) (fun a b ha hb => .inl (by rw [ha]; omega)) fun _ _ _ _ => True.intro) (ep_int rfl) (fun a b _ hb => by rw [hb]; decide) fun _ _ _ _ => True.intro) (ep_var rfl rfl) (fun a b _ hb => .inr (by rw [hb]; omega)) fun _ _ _ _ => True.intro) (ep_opC (p := fun j => j = 9479) (p' := fun _ => True) (ep_int rfl) (ep_dice (.inr (.inr rfl)) rfl (ev_var rfl) fun _ => True.intro) (fun a b ha _ => .inl (by rw [ha]; decide)) fun _ _ _ _ => True.intro) fun _ _ _ _ => True.intro) fun v2 H5 e5 ⟨i2, ev2, _⟩ => ?_
        subst ev2
        refine q_set (M := M0) (D := some d) (P := fun v _ => ∃ i, v = .int i ∧ True) (Ex.refl e5.good) (ep_opC (p := fun _ => True) (p' := fun j => j = 2305843009213693907) (ep_var rfl True.intro) (ep_int rfl) (fun a b _ hb => by rw [hb]; decide) fun _ _ _ _ => True.intro) fun v3 H6 e6 ⟨i3, ev3, _⟩ => ?_
        subst ev3
        have e16 := (((((e1.trans e2).trans e3).trans e4).trans e5).trans e6)
        refine s_ret (M := M0) (D := some d) (P := fun v _ => ∃ i, v = .int i ∧ 0 ≤ i ∧ i < t) (Ex.refl e6.good) ?_ fun v H7 e7 ⟨j, ev, h3, h4⟩ => q v H7 (e16.trans e7) ⟨j.toNat, by rw [ev, show ((j.toNat : Nat) : Int) = j by omega], by omega⟩
        intro H7 e7 Q qq
        refine (ep_opC (r := fun i => 0 ≤ i ∧ i < t) (p := fun _ => True) (p' := fun j => j = t) (ep_opC (p := fun _ => True) (p' := fun j => j = 4096) (ep_var rfl True.intro) (ep_int rfl) (fun a b _ hb => by rw [hb]; exact ⟨by decide, by decide⟩) fun _ _ _ _ => True.intro) (ep_var rfl rfl) (fun a b _ hb => by rw [hb]; omega) (fun a b _ hb => by rw [hb]; exact ⟨Int.emod_nonneg _ (by omega), Int.emod_lt_of_pos _ (by omega)⟩)) H7 e7 _ fun v H8 e8 ⟨j, ev, hj⟩ => .inl ⟨j, by rw [ev], qq _ H8 e8 ⟨j, rfl, hj⟩⟩
/-- one of a list -/
def sp__law_one_of : Sp := fun vs H Q _ => ∃ (d p : Addr) (xs : List V), vs = [.ref d, .ref p] ∧ DiceAt H d ∧ d ≠ p ∧ H p = some (.lst xs) ∧ 1 ≤ xs.length ∧ xs.length ≤ 1000 ∧ ∀ (j : Nat) u H', Ex M0 (some d) H H' → xs[j]? = some u → Q u H'
theorem ok__law_one_of (T : Prog K mg A F) : FnOk P w K mg base CX0 2 (A 10) (F 10) ["_law_dice_here", "_law_items"] sp__law_one_of := by
  have G__law_roll := ok__law_roll (P := P) (w := w) (base := base) T
  have sc := sc__law_one_of
  refine T.d__law_one_of.ok sc__law_one_of (fun vs H Q E h => ?_) (fun cdv _ outer s H vs Q E hr h => ?_)
  · obtain ⟨_, _, _, rfl, _⟩ := h
    rfl
  · obtain ⟨d, p, xs, rfl, hd, hdp, hp, h1, h2, q⟩ := h
    have g := goodD hd
    have e0 : Ex M0 (some d) H H := Ex.refl g
    have hdp' : some d ≠ some p := fun e => hdp (Option.some.inj e)
    refine ⟨_, (pss_one (ps_ret (pe_ix (k_ixL K rfl) (pv 1) (pe_call G__law_roll (hr.mono (by decide)) (by rfl) T.d__law_roll.at_ T.d__law_roll.fn.kp T.d__law_roll.bi .nil pass0 (pa_cons (pv 0) (pa_cons (pe_callB (k_len K rfl) (by rfl) T.len (by decide +kernel) (pa_cons (pv 1) pa_nil)) pa_nil))) (fun _ _ => rfl)))), ?_⟩
    refine s_ret (M := M0) (D := some d) (P := fun v _ => ∃ j : Nat, xs[j]? = some v) e0 ?_ fun v H2 e2 ⟨j, hj⟩ => q j v H2 e2 hj
    intro H1 e1 Q qq
    refine ⟨_, rfl, ?_⟩
    refine ev_d1 (M := M0) (d := d) (a := (xs.length : Int)) (ev_var rfl) (er_nat (er_lenS (ev_var rfl) (SqL.of (e1.keep _ _ (fun z => z) hdp' hp)) (fun z => z) hdp') rfl) ⟨by omega, by omega⟩ H1 (Ex.refl e1.good) _ fun v H2 e2 ⟨r, ev, hr⟩ => ?_
    have hpx := (e1.trans e2).keep _ _ (fun z => z) hdp' hp
    have hrl : r < xs.length := by omega
    have hget := List.getElem?_eq_getElem hrl
    exact ⟨p, xs, r, xs[r], rfl, ev, SqL.of hpx, atI_nat hget, qq _ H2 e2 ⟨r, hget⟩⟩
end KX
namespace KX
open PySem PySem.Spec PyProof.Rows L2
section
variable {K : PySem.W.Frag} {M : Ads} {D : Option Addr} {σ : L2.St} {H H0 Hb H' : Hp} {ta tb tc td te : TE} {t : TT} {α β γ : Type} {R : Rel α} {S : Rel β} {B : Ends} {tz tu : TS} {q d a : Addr} {p p' r : Int → Prop}
theorem ep_inti (h : EvP M D te σ H p) : EvP M D (tCB (fun xs H Q => (∃ i, xs = [.int i] ∧ Q (.int i) H) ∨ ∃ k, xs = [.bl k] ∧ Q (.int (if k then 1 else 0)) H) (tCons te tNil)) σ H p := fun H1 e Q q =>
  h H1 e _ fun x H2 e2 ⟨i, ex, hp⟩ => .inl ⟨i, by rw [ex], q _ H2 e2 ⟨i, rfl, hp⟩⟩
theorem ep_abs (h : EvP M D te σ H p) : EvP M D (tCB (fun xs H Q => ∃ i, xs = [.int i] ∧ Q (.int (if i < 0 then -i else i)) H) (tCons te tNil)) σ H fun _ => True := fun H1 e Q q =>
  h H1 e _ fun x H2 e2 ⟨i, ex, hp⟩ => ⟨i, by rw [ex], q _ H2 e2 ⟨_, rfl, True.intro⟩⟩
theorem s_par {i j : Nat} {ta : TA} {Pa : List V → Hp → Prop} (e : Ex M D H0 H) (h : EvA M D ta σ H0 Pa) (k : ∀ vs H2, Ex M0 D H H2 → Pa vs H2 → ∃ v w, vs = [v, w] ∧ B.nx ((σ.set i (some v)).set j (some w)) H2) : tPar i j ta B σ H := h H e _ k
/-- a branch that joins -/
theorem q_whenJ {pb : Bool → Prop} (J : L2.St → Hp → Prop) (e : Ex M D H0 H) (h : EvT M D t σ H0 pb) (k : ∀ σ' H', J σ' H' → tz B σ' H') (h1 : pb true → ∀ H2, Ex M0 D H H2 → (∀ σ' H', J σ' H' → tz B σ' H') → tu { B with nx := tz B } σ H2) (h2 : pb false → ∀ H2, Ex M0 D H H2 → J σ H2) : tSeq (tIfS t tu tNext) tz B σ H :=
  q_when e h (fun p H2 e2 => h1 p H2 e2 k) fun p H2 e2 => k _ _ (h2 p H2 e2)
end
variable {P : Program} {w : World} {K : PySem.W.Frag} {mg : Str → Option Value} {base : PySem.Heap} {A : Nat → Addr} {F : Nat → FuncData}
abbrev TT1 : Int → Prop := fun _ => True
def sp__law_dice (K : PySem.W.Frag) : Sp := fun vs H Q _ => ∃ (sp : Addr) (ns : List Int) (n : Nat), vs = [.ref sp, .int (n : Int)] ∧ SqL K H sp (ns.map V.int) ∧ ns.length < 1000 ∧ n < 10 ∧ ∀ p H', H p = none → Same H H' → DiceAt H' p → Q (.ref p) H'
theorem ok__law_dice (T : Prog K mg A F) : FnOk P w K mg base CX0 1 (A 0) (F 0) ["_law_script", "_law_at"] (sp__law_dice K) := by
  have sc := sc__law_dice
  refine T.d__law_dice.ok sc__law_dice (fun vs H Q E h => ?_) (fun cdv _ outer s H vs Q E hr h => ?_)
  · obtain ⟨_, _, _, rfl, _⟩ := h
    rfl
  · obtain ⟨sp, ns, n, rfl, hs, hz, hn, q⟩ := h
    refine ⟨_, (pss_cons (ps_set (i := 2) sc.nd rfl (.inl rfl) (pe_op op_add (pe_op op_mul pe_int (pv 1)) pe_int))
      (pss_cons (ps_if (pt_cmpR op_lt (pv 1) (pe_callB (k_len K rfl) (by rfl) T.len (by decide +kernel) (pa_cons (pv 0) pa_nil)) (nomark _)) (pss_one (ps_set (i := 2) sc.nd rfl (.inl rfl) (pe_ix (k_ixL K rfl) (pv 0) (pv 1) (fun _ _ => rfl)))) pss_nil)
      (pss_cons (ps_set (i := 3) sc.nd rfl (.inl rfl) (pe_op op_mod (pe_callTy call_int1 (by rfl) T.int (by decide +kernel) (pa_cons (pe_callB call_abs (by rfl) T.abs (by decide +kernel) (pa_cons (pv 2) pa_nil)) pa_nil)) (pe_op op_powW (pe_op op_pow pe_int pe_int) pe_int)))
      (pss_cons (ps_set (i := 4) sc.nd rfl (.inl rfl) (pe_op op_fdivW (pv 3) (pe_op op_pow pe_int pe_int)))
      (pss_cons (ps_set (i := 5) sc.nd rfl (.inl rfl) (pe_op op_add (pe_op op_add (pe_op op_add (pe_op op_mul (pe_op op_mod (pv 3) pe_int) pe_int) (pe_op op_mul pe_int (pv 1))) (pe_op op_mul pe_int (pe_callTy call_int1 (by rfl) T.int (by decide +kernel) (pa_cons (pe_cmpR op_lt (pv 2) pe_int (nomark _)) pa_nil)))) pe_int))
      (pss_one (ps_ret (pe_lst (pa_cons (pv 4) (pa_cons (pe_op op_mod (pv 5) pe_int) (pa_cons pe_int pa_nil))))))))))), ?_⟩
    refine q_set (M := M0) (D := none) (P := fun v _ => ∃ i, v = .int i ∧ TT1 i) e00 (ep_op0 (p := TT1) (p' := TT1) (ep_opC (p := fun i => i = 101) (p' := TT1) (ep_int rfl) (ep_var rfl True.intro) (fun i j hi _ => .inl (by rw [hi]; decide)) fun _ _ _ _ => True.intro) (ep_int True.intro) fun _ _ _ _ => True.intro) fun v H1 e1 ⟨i, ev, _⟩ => ?_
    subst ev
    refine q_whenJ (M := M0) (D := none) (fun σ' H' => Ex M0 none H H' ∧ ∃ c, σ' = [some (.ref sp), some (.int (n : Int)), some (.int c), none, none, none]) (Ex.refl good0) (et_test (er_lt (er_var (R := RI) rfl rfl) (er_nat (er_lenS (ev_var rfl) (e1.seqL (fun z => z) (fun z => nomatch z) hs) (fun z => z) (fun z => nomatch z)) rfl))) ?_ (fun hb H2 e2 k => ?_) fun _ H2 e2 => ⟨e1.trans e2, _, rfl⟩
    · rintro σ' H2 ⟨e2, c, rfl⟩
      refine q_set (M := M0) (D := none) (P := fun v _ => ∃ i, v = .int i ∧ TT1 i) (Ex.refl good0) (ep_opC (p := TT1) (p' := fun j => j = 10 ^ 600) (ep_inti (ep_abs (p := TT1) (ep_var rfl True.intro))) (ep_opC (p := fun i => i = 10 ^ 60) (p' := fun j => j = 10) (ep_opC (p := fun i => i = 10) (p' := fun j => j = 60) (ep_int rfl) (ep_int rfl) (fun i j hi hj => by rw [hi, hj]; exact ⟨by decide, by decide, by decide⟩) fun i j hi hj => by rw [hi, hj]; rfl) (ep_int rfl) (fun i j hi hj => ⟨hi, hj⟩) fun _ _ _ _ => rfl) (fun i j _ hj => by rw [hj]; decide +kernel) fun _ _ _ _ => True.intro) fun v H3 e3 ⟨g, ev, _⟩ => ?_
      subst ev
      refine q_set (M := M0) (D := none) (P := fun v _ => ∃ i, v = .int i ∧ TT1 i) (Ex.refl good0) (ep_opC (p := TT1) (p' := fun j => j = 10 ^ 18) (ep_var rfl True.intro) (ep_opC (p := fun i => i = 10) (p' := fun j => j = 18) (ep_int rfl) (ep_int rfl) (fun i j hi hj => by rw [hi, hj]; exact ⟨by decide, by decide, by decide⟩) fun i j hi hj => by rw [hi, hj]; rfl) (fun i j _ hj => by rw [hj]; exact ⟨by decide, by decide +kernel⟩) fun _ _ _ _ => True.intro) fun v H4 e4 ⟨l, ev, _⟩ => ?_
      subst ev
      refine q_set (M := M0) (D := none) (P := fun v _ => ∃ i, v = .int i ∧ TT1 i) (Ex.refl good0) (ep_op0 (p := TT1) (p' := TT1) (ep_op0 (p := TT1) (p' := TT1) (ep_op0 (p := TT1) (p' := TT1) (ep_opC (p := TT1) (p' := fun j => j = 60497) (ep_opC (p := TT1) (p' := fun j => j = 2147482697) (ep_var rfl True.intro) (ep_int rfl) (fun i j _ hj => by rw [hj]; decide) fun _ _ _ _ => True.intro) (ep_int rfl) (fun i j _ hj => .inr (by rw [hj]; decide)) fun _ _ _ _ => True.intro) (ep_opC (p := fun i => i = 3533) (p' := TT1) (ep_int rfl) (ep_var rfl True.intro) (fun i j hi _ => .inl (by rw [hi]; decide)) fun _ _ _ _ => True.intro) fun _ _ _ _ => True.intro) (ep_opC (p := fun i => i = 89) (p' := TT1) (ep_int rfl) (ep_of (er_intb (er_lt (er_var (R := RI) rfl rfl) er_int)) True.intro) (fun i j hi _ => .inl (by rw [hi]; decide)) fun _ _ _ _ => True.intro) fun _ _ _ _ => True.intro) (ep_int True.intro) fun _ _ _ _ => True.intro) fun v H5 e5 ⟨m, ev, _⟩ => ?_
      subst ev
      refine s_retN (M := M0) (D := none) (PN := fun p H' => DiceAt H' p) (Ex.refl good0) (en_lst (Pa := fun vs _ => ∃ a b c : Int, vs = [.int a, .int b, .int c]) ?_ (fun vs _ ⟨a, b, c, e⟩ => by rw [e]; show 3 ≤ 100000; decide) fun vs Ha a Hb ⟨x, y, z, e⟩ k hh => ⟨x, y, z, by rw [hh, e]⟩) fun p H6 hp e6 hd => q p H6 ((((e2.trans e3).trans e4).trans e5).there p hp) ((((e2.trans e3).trans e4).trans e5).trans e6).toSame hd
      exact (ea_cons (ep_var (p := TT1) rfl True.intro) (ea_cons (ep_opC (r := TT1) (p := TT1) (p' := fun j => j = 2147482661) (ep_var rfl True.intro) (ep_int rfl) (fun i j _ hj => by rw [hj]; decide) fun _ _ _ _ => True.intro) (ea_one (ep_int (p := TT1) True.intro)))).imp fun vs H' ⟨v1, r1, e1, ⟨a, ea, _⟩, v2, r2, e2, ⟨b, eb, _⟩, v3, e3, c, ec, _⟩ => ⟨a, b, c, by rw [e1, e2, e3, ea, eb, ec]⟩
    · have hlt : n < ns.length := by
        have := of_decide_eq_true hb.symm
        rw [List.length_map] at this
        omega
      refine s_set (M := M0) (D := none) (Ex.refl good0) (er_ixS (i := (n : Int)) (j := n) (a := ns[n]) (ev_var rfl) (er_var (R := RI) rfl rfl) ((e1.trans e2).seqL (fun z => z) (fun z => nomatch z) hs) (fun z => z) (fun z => nomatch z) rfl (List.getElem?_eq_getElem hlt)) fun v H3 e3 pv => k _ _ ⟨(e1.trans e2).trans e3, ns[n], by rw [show v = .int ns[n] from pv]; rfl⟩
def sp__law_common : Sp := sp2 RN RN (fun _ _ => True) fun a b v _ => v = .int (Nat.gcd a b : Int)
theorem ok__law_common (T : Prog K mg A F) : FnOk P w K mg base CX0 1 (A 9) (F 9) ["_law_one", "_law_other"] sp__law_common := by
  have sc := sc__law_common
  refine T.d__law_common.ok sc__law_common (fun vs H Q E h => ?_) (fun cdv _ outer s H vs Q E hr h => ?_)
  · obtain ⟨_, _, _, _, rfl, _⟩ := h
    rfl
  · obtain ⟨v, y, a, b, rfl, ra, rb, _, q⟩ := h
    have ra : v = .int (a : Int) := ra
    have rb : y = .int (b : Int) := rb
    subst ra rb
    refine ⟨_, (pss_cons (ps_while PassesOwn.never (pt_cmpR op_ne (pv 1) pe_int (nomark _)) (pss_one (ps_par (i := 0) (j := 1) rfl sc.nd rfl rfl (by decide) rfl rfl (pa_cons (pv 1) (pa_cons (pe_op op_mod (pv 0) (pv 1)) pa_nil)) (by rfl))))
      (pss_one (ps_ret (pv 0)))), ?_⟩
    refine ⟨fun m σ' H' => ∃ a' b' : Nat, σ' = [some (.int (a' : Int)), some (.int (b' : Int))] ∧ m = b' ∧ Nat.gcd a' b' = Nat.gcd a b ∧ Same H H', ⟨b, a, b, rfl, rfl, rfl, Same.refl H⟩, ?_⟩
    rintro m σ' H' ⟨a', b', rfl, rfl, hg, hs⟩
    refine et_test (M := M0) (D := none) (er_ne (er_var (R := RI) rfl rfl) er_int) H' (Ex.refl good0) _ fun c H2 e2 ec => ?_
    cases c with
    | true =>
      have hb0 : m ≠ 0 := by simp at ec; omega
      refine ⟨fun σ3 H3 => ∃ m', m' < m ∧ ∃ a' b' : Nat, σ3 = [some (.int (a' : Int)), some (.int (b' : Int))] ∧ m' = b' ∧ Nat.gcd a' b' = Nat.gcd a b ∧ Same H H3, fun σ3 H3 h => h, ?_⟩
      refine s_par (M := M0) (D := none) (Ex.refl good0) (ea_cons (er_var (R := RI) (a := (m : Int)) rfl rfl) (ea_one (er_mod (er_var (R := RI) (a := (a' : Int)) rfl rfl) (er_var (R := RI) (a := (m : Int)) rfl rfl) (by omega)))) fun vs H4 e4 ⟨v1, r1, ev, p1, v2, ev2, p2⟩ => ⟨v1, v2, by rw [ev, ev2], a' % m, Nat.mod_lt _ (by omega), m, a' % m, ?_, rfl, ?_, hs.trans (e2.trans e4).toSame⟩
      · rw [show v1 = .int (m : Int) from p1, show v2 = .int ((a' : Int) % (m : Int)) from p2]
        rfl
      · rw [← hg, Nat.gcd_comm a' m, Nat.gcd_rec m a', Nat.gcd_comm]
    | false =>
      have hb0 : m = 0 := by simp at ec; omega
      subst hb0
      rw [Nat.gcd_zero_right] at hg
      subst hg
      exact s_ret (M := M0) (D := none) (Ex.refl good0) (er_var (R := RI) rfl rfl) fun v H3 e3 p => q v H3 (hs.trans (e2.trans e3).toSame) p
end KX
namespace KX
open PySem PySem.Spec PyProof.Rows L2
section
variable {K : PySem.W.Frag} {M : Ads} {D : Option Addr} {σ : L2.St} {H H0 Hb H' : Hp} {ta tb tc td te : TE} {t : TT} {α β γ : Type} {R : Rel α} {S : Rel β} {B : Ends} {tz tu : TS} {q d a : Addr} {p p' r : Int → Prop}
/-- l.extend(m), m new -/
theorem ev_ext [Mo R] {l m : List α} {p : Addr} (hv : Ev M0 none ta σ H fun v _ => v = .ref p) (hl : LAt H p R l) (hz : l.length + m.length < 100000) (hp : M p) (g : Good M none H) (h : EvL M0 none te σ H R m) (k : ∀ H2, Ex M none H H2 → LAt H2 p R (l ++ m) → B.nx σ H2) : tDrop (tBM K "list" rExtend ta (tCons te tNil)) B σ H := hv H (Ex.refl g.m0) _ fun x H1 e1 px => by
  have l1 := e1.lat (fun z => z) (fun z => nomatch z) hl
  obtain ⟨xs0, h0, _⟩ := l1
  subst px
  refine ⟨.inl ⟨rfl, xs0, SqL.of h0⟩, h H1 e1 _ fun b H2 hb e2 ⟨zs, h1, h2⟩ => ?_⟩
  obtain ⟨xs, h3, h4⟩ := (e1.trans e2).lat (fun z => z) (fun z => nomatch z) hl
  refine ⟨p, b, xs, zs, rfl, rfl, h3, h1, sz_of (by rw [Paired.length h4, Paired.length h2]; omega), k _ (((e1.trans e2).up g).put hp (fun z => nomatch z) h3 rfl (fun z => nomatch z)) ?_⟩
  have tk : Sta H2 (upd H2 p (.lst (xs ++ zs))) := Sta.put h3 rfl (fun z => nomatch z)
  exact ⟨xs ++ zs, upd_same, paired_app (paired_mono (fun _ _ w => Mo.mono tk w) h4) (paired_mono (fun _ _ w => Mo.mono tk w) h2)⟩
/-- t + u -/
theorem er_cat [Mo R] {l m : List α} (ha : EvR M D ta σ H (RT R) l) (hb : EvR M D tb σ H (RT R) m) (hz : l.length + m.length ≤ 100000) : EvR M D (tOp (rCatA K) ta tb) σ H (RT R) (l ++ m) :=
  ev_op ha hb fun x y H1 e ⟨a, xs, e1, h1, p1⟩ ⟨b, ys, e2, h2, p2⟩ Q k => by
    refine ⟨a, b, xs, ys, e1, e2, SqT.of h1, SqT.of h2, sz_of (by rw [Paired.length p1, Paired.length p2]; exact hz), fun hx => ?_, fun _ hy => ?_, fun _ _ p hp => ?_⟩
    · subst hx
      cases p1
      exact k _ H1 (Ex.refl e.good.m0) ⟨b, ys, rfl, h2, p2⟩
    · subst hy
      cases p2
      exact k _ H1 (Ex.refl e.good.m0) (by rw [List.append_nil]; exact ⟨a, xs, rfl, h1, p1⟩)
    · have ex := (Ex.refl e.good.m0).new (o := .tup (xs ++ ys)) hp
      exact k _ _ ex ⟨p, xs ++ ys, rfl, upd_same, paired_app (paired_mono (fun _ _ w => ex.mo w) p1) (paired_mono (fun _ _ w => ex.mo w) p2)⟩
theorem ep_roll {g : Int → Int → Int} {t : Int} (ha : EvP M D ta σ H p) (hb : Ev M D tb σ H fun v _ => RollIs t v) (h : ∀ i (j : Nat), p i → (j : Int) < t → r (g i j)) : EvP M D (tOp (rI0 fun i j => .int (g i j)) ta tb) σ H r :=
  ev_op ha hb fun x y H1 e ⟨i, e1, p1⟩ ⟨j, e2, p2⟩ Q k => ⟨i, j, e1, e2, k _ H1 (Ex.refl e.good.m0) ⟨_, rfl, h i j p1 p2⟩⟩
theorem er_min {i j : Int} (ha : EvR M D ta σ H RI i) (hb : EvR M D tb σ H RI j) : EvR M D (tCB (fun xs H Q => ∃ i j, xs = [.int i, .int j] ∧ Q (.int (if j < i then j else i)) H) (tCons ta (tCons tb tNil))) σ H RI (if j < i then j else i) := fun H1 e Q q =>
  ha H1 e _ fun x H2 e2 px => hb H2 (e.then e2) _ fun y H3 e3 py => ⟨i, j, by rw [show x = .int i from px, show y = .int j from py], q _ H3 (e2.trans e3) rfl⟩
end
variable {P : Program} {w : World} {K : PySem.W.Frag} {mg : Str → Option Value} {base : PySem.Heap} {A : Nat → Addr} {F : Nat → FuncData}
def RingIs (m : Int) (H : Hp) (v : V) : Prop := ∃ rg, RRg H v rg ∧ Rok rg ∧ rg.1 ≤ m
def sp__law_ring : Sp := spd1 RI (fun m => 2 ≤ m ∧ m ≤ 60) fun m v H' => RingIs m H' v
theorem ok__law_ring (T : Prog K mg A F) : FnOk P w K mg base CX0 2 (A 8) (F 8) ["_law_dice_here", "_law_most"] sp__law_ring := by
  have G__law_roll := ok__law_roll (P := P) (w := w) (base := base) T
  have sc := sc__law_ring
  refine T.d__law_ring.ok sc__law_ring (fun vs H Q E h => ?_) (fun cdv _ outer s H vs Q E hr h => ?_)
  · obtain ⟨_, _, _, rfl, _⟩ := h
    rfl
  · obtain ⟨d, v, m, rfl, hd, rm, ⟨h1, h2⟩, q⟩ := h
    have g := goodD hd
    have e0 : Ex M0 (some d) H H := Ex.refl g
    have rm : v = .int m := rm
    subst rm
    refine ⟨_, (pss_cons (ps_set (i := 2) sc.nd rfl (.inl rfl) (pe_op op_add pe_int (pe_call G__law_roll (hr.mono (by decide)) (by rfl) T.d__law_roll.at_ T.d__law_roll.fn.kp T.d__law_roll.bi .nil pass0 (pa_cons (pv 0) (pa_cons (pe_op op_sub (pv 1) pe_int) pa_nil)))))
      (pss_one (ps_ret (pe_tup (pa_cons (pv 2) (pa_cons (pe_op op_add pe_int (pe_call G__law_roll (hr.mono (by decide)) (by rfl) T.d__law_roll.at_ T.d__law_roll.fn.kp T.d__law_roll.bi .nil pass0 (pa_cons (pv 0) (pa_cons (pe_op op_sub (pv 2) pe_int) pa_nil)))) pa_nil)))))), ?_⟩
    refine q_set (M := M0) (D := some d) (P := fun v _ => ∃ i, v = .int i ∧ 2 ≤ i ∧ i ≤ m) e0 (ep_roll (p := fun i => i = 2) (t := m - 1) (ep_int rfl) (ev_d1 (d := d) (ev_var rfl) (er_sub (er_var (R := RI) rfl rfl) er_int) ⟨by omega, by omega⟩) fun i j hi hj => ⟨by omega, by omega⟩) fun v1 H1 e1 ⟨n, ev, hn⟩ => ?_
    subst ev
    refine s_ret (M := M0) (D := some d) (P := fun v H' => RingIs m H' v) (Ex.refl e1.good) ?_ fun v H2 e2 p => q v H2 (e1.trans e2) p
    refine ev_tup (Pa := fun vs _ => ∃ s : Int, vs = [.int n, .int s] ∧ 1 ≤ s ∧ s < n) ((ea_cons (er_var (R := RI) (a := n) rfl rfl) (ea_one (ep_roll (r := fun s => 1 ≤ s ∧ s < n) (p := fun i => i = 1) (t := n - 1) (ep_int rfl) (ev_d1 (d := d) (ev_var rfl) (er_sub (er_var (R := RI) rfl rfl) er_int) ⟨by omega, by omega⟩) fun i j hi hj => ⟨by omega, by omega⟩))).imp fun vs H' ⟨v1, r1, e1, p1, v2, e2, s, es, hs⟩ => ⟨s, by rw [e1, e2, es, show v1 = .int n from p1], hs⟩) (fun vs _ ⟨s, e, _⟩ => by rw [e]; show 2 ≤ 100000; decide) fun vs Ha a Hb ⟨s, e, h3, h4⟩ k hh => ⟨(n, s), ⟨a, _, _, rfl, by rw [hh, e], rfl, rfl⟩, ⟨⟨hn.1, h3, h4⟩, by show n ≤ 60; omega⟩, hn.2⟩
def sp__law_ring_of : Sp := spd2 RI RI (fun k t => 2 ≤ k ∧ k ≤ 60 ∧ 1 ≤ t ∧ k * t ≤ 60) fun k t v H' => RingIs (k * t) H' v
theorem ok__law_ring_of (T : Prog K mg A F) : FnOk P w K mg base CX0 3 (A 11) (F 11) ["_law_dice_here", "_law_k", "_law_times"] sp__law_ring_of := by
  have G__law_common := ok__law_common (P := P) (w := w) (base := base) T
  have G__law_one_of := ok__law_one_of (P := P) (w := w) (base := base) T
  have G__law_roll := ok__law_roll (P := P) (w := w) (base := base) T
  have sc := sc__law_ring_of
  refine T.d__law_ring_of.ok sc__law_ring_of (fun vs H Q E h => ?_) (fun cdv _ outer s H vs Q E hr h => ?_)
  · obtain ⟨_, _, _, _, _, rfl, _⟩ := h
    rfl
  · obtain ⟨d, v, y, k, t, rfl, hd, rk, rt, ⟨h1, h2, h3, h4⟩, q⟩ := h
    have g := goodD hd
    have e0 : Ex M0 (some d) H H := Ex.refl g
    have rk : v = .int k := rk
    have rt : y = .int t := rt
    subst rk rt
    have ht : t ≤ 60 := by
      have : 1 * t ≤ k * t := Int.mul_le_mul_of_nonneg_right (by omega) (by omega)
      omega
    refine ⟨_, (pss_cons (ps_set (i := 3) sc.nd rfl (.inl rfl) (pe_op op_add pe_int (pe_call G__law_roll (hr.mono (by decide)) (by rfl) T.d__law_roll.at_ T.d__law_roll.fn.kp T.d__law_roll.bi .nil pass0 (pa_cons (pv 0) (pa_cons (pv 2) pa_nil)))))
      (pss_cons (ps_setLc (i := 4) (own := [("_law_one", 5)]) (g := gName 5) rfl sc.nd rfl rfl (sw_true rfl rfl rfl (by decide +kernel)) (pi_range2 rfl T.range (pa_cons pe_int (pa_cons (pv 1) pa_nil))) (blkOk_by (N := N__law_ring_of) (sc := defScope s__law_ring_of) (by decide +kernel)) (fun _ _ _ _ _ => (pg_name (i := 5) sc.nd rfl (.inl rfl))) (fun _ _ _ _ _ => (pts_one (pt_cmpR op_eq (pe_call G__law_common (hr.mono (by decide)) (by rfl) T.d__law_common.at_ T.d__law_common.fn.kp T.d__law_common.bi .nil pass0 (pa_cons (pv 1) (pa_cons (pv 5) pa_nil))) pe_int (nomark _)))) (fun _ _ _ _ _ => (pv 5)))
      (pss_one (ps_ret (pe_tup (pa_cons (pe_op op_mul (pv 1) (pv 3)) (pa_cons (pe_op op_mul (pv 3) (pe_call G__law_one_of (hr.mono (by decide)) (by rfl) T.d__law_one_of.at_ T.d__law_one_of.fn.kp T.d__law_one_of.bi .nil pass0 (pa_cons (pv 0) (pa_cons (pv 4) pa_nil)))) pa_nil))))))), ?_⟩
    refine q_set (M := M0) (D := some d) (P := fun v _ => ∃ i, v = .int i ∧ 1 ≤ i ∧ i ≤ t) e0 (ep_roll (p := fun i => i = 1) (t := t) (ep_int rfl) (ev_d1 (d := d) (ev_var rfl) (er_var (R := RI) rfl rfl) ⟨by omega, by omega⟩) fun i j hi hj => ⟨by omega, by omega⟩) fun v1 H1 e1 ⟨n, ev, hn⟩ => ?_
    subst ev
    refine q_new (M := M0) (D := some d) (Ex.refl e1.good) (el_lc (R := RI) (S := RI) (fun i => decide ((Nat.gcd k.toNat i.toNat : Int) = 1)) id (ei_rng2 er_int (er_var (R := RI) rfl rfl) (by omega)) (by rw [List.length_map, List.length_range]; omega) fun i x c H' hx e rc => tg_name (fun _ => rfl) ⟨et_test (er_eq (ev_c2 (R := RN) (S := RN) (a := k.toNat) (b := c.toNat) (er_toN (er_var (R := RI) rfl rfl) (by omega)) (er_toN (er_var rfl rc) ?_) True.intro) er_int), fun _ => er_var rfl rc⟩) fun f H2 hf e2 lf => ?_
    · rw [List.getElem?_map] at hx
      obtain ⟨j, _, ej⟩ := Option.map_eq_some_iff.mp hx
      omega
    · rw [List.map_id] at lf
      obtain ⟨xs, hx1, hx2⟩ := lf
      have hin : ∀ (j : Nat) u, xs[j]? = some u → ∃ s : Int, u = .int s ∧ 1 ≤ s ∧ s < k := fun j u hj => by
        have hl := (List.getElem?_eq_some_iff.mp hj).1
        rw [Paired.length hx2] at hl
        obtain ⟨u', s, h5, h6, h7⟩ := paired_get hx2 hl
        rw [hj] at h5
        cases h5
        have := (List.mem_filter.mp (List.mem_of_getElem? h6)).1
        obtain ⟨i, hi, ei⟩ := List.mem_map.mp this
        have hi := List.mem_range.mp hi
        exact ⟨s, h7, by omega, by omega⟩
      have hone : 1 ≤ xs.length := by
        rw [Paired.length hx2]
        refine List.length_pos_of_mem (a := (1 : Int)) (List.mem_filter.mpr ⟨List.mem_map.mpr ⟨0, List.mem_range.mpr (by omega), rfl⟩, ?_⟩)
        simp
      have hlen : xs.length ≤ 1000 := by
        rw [Paired.length hx2]
        refine Nat.le_trans (List.length_filter_le _ _) ?_
        rw [List.length_map, List.length_range]
        omega
      have hdf : d ≠ f := fun e => by
        obtain ⟨_, _, _, hh⟩ := e1.good.dice d rfl
        rw [e, hf] at hh
        cases hh
      refine s_ret (M := M0) (D := some d) (P := fun v H' => RingIs (k * t) H' v) (Ex.refl e2.good) ?_ fun v H3 e3 p => q v H3 ((e1.trans e2).trans e3) p
      refine ev_tup (Pa := fun vs _ => ∃ s : Int, vs = [.int (k * n), .int (n * s)] ∧ 1 ≤ s ∧ s < k) ?_ (fun vs _ ⟨s, e, _⟩ => by rw [e]; show 2 ≤ 100000; decide) fun vs Ha a Hb ⟨s, e, h5, h6⟩ kk hh => ⟨(k * n, n * s), ⟨a, _, _, rfl, by rw [hh, e], rfl, rfl⟩, ?_, ?_⟩
      · refine (ea_cons (er_mul (er_var (R := RI) (a := k) rfl rfl) (er_var (R := RI) (a := n) rfl rfl) (.inl (by omega))) (ea_one (Pa := fun v _ => ∃ i, v = .int i ∧ ∃ s, i = n * s ∧ 1 ≤ s ∧ s < k) (ep_opC (p := fun i => i = n) (p' := fun s => 1 ≤ s ∧ s < k) (ep_var rfl rfl) (fun H3 e3 Q qq => ?_) (fun i j hi _ => .inl (by rw [hi]; omega)) fun i j hi hj => ⟨j, by rw [hi], hj⟩))).imp fun vs H' ⟨v1, r1, e1, p1, v2, e2, i, ei, s, es, hs⟩ => ⟨s, by rw [e1, e2, ei, es, show v1 = .int (k * n) from p1], hs⟩
        have hp3 := e3.keep f _ (fun z => z) (fun e => hdf (Option.some.inj e)) hx1
        exact ⟨_, rfl, _, rfl, d, f, xs, rfl, e3.good.dice d rfl, hdf, hp3, hone, hlen, fun j u H4 e4 hj => (hin j u hj).elim fun s h5 => qq u H4 e4 ⟨s, h5⟩⟩
      · have a1 : k * 1 ≤ k * n := Int.mul_le_mul_of_nonneg_left (by omega) (by omega)
        have a2 : k * n ≤ k * t := Int.mul_le_mul_of_nonneg_left (by omega) (by omega)
        have a3 : n * 1 ≤ n * s := Int.mul_le_mul_of_nonneg_left (by omega) (by omega)
        have a4 : n * s < n * k := Int.mul_lt_mul_of_pos_left (by omega) (by omega)
        rw [Int.mul_comm n k] at a4
        exact ⟨⟨by show 2 ≤ k * n; omega, by show 1 ≤ n * s; omega, a4⟩, by show k * n ≤ 60; omega⟩
      · exact Int.mul_le_mul_of_nonneg_left (by omega) (by omega)
def ChainIs (g : Nat) (m : Int) (H : Hp) (v : V) : Prop := ∃ ch, RCh H v ch ∧ ch.length = g ∧ ∀ r ∈ ch, Rok r ∧ r.1 ≤ m
def sp__law_chain : Sp := spd2 RN RI (fun g m => 1 ≤ g ∧ g ≤ 5 ∧ 2 ≤ m ∧ m ≤ 5) fun g m v H' => ChainIs g m H' v
theorem ok__law_chain (T : Prog K mg A F) : FnOk P w K mg base CX0 4 (A 12) (F 12) ["_law_dice_here", "_law_rings", "_law_most"] sp__law_chain := by
  have G__law_ring := ok__law_ring (P := P) (w := w) (base := base) T
  have G__law_ring_of := ok__law_ring_of (P := P) (w := w) (base := base) T
  have G__law_roll := ok__law_roll (P := P) (w := w) (base := base) T
  have sc := sc__law_chain
  refine T.d__law_chain.ok sc__law_chain (fun vs H Q E h => ?_) (fun cdv _ outer s H vs Q E hr h => ?_)
  · obtain ⟨_, _, _, _, _, rfl, _⟩ := h
    rfl
  · obtain ⟨d, v, y, n, m, rfl, hd, rn, rm, ⟨h1, h2, h3, h4⟩, q⟩ := h
    have g := goodD hd
    have e0 : Ex M0 (some d) H H := Ex.refl g
    have rm : y = .int m := rm
    subst rm
    refine ⟨_, (pss_cons (ps_if (pt_cmpR op_eq (pe_call G__law_roll (hr.mono (by decide)) (by rfl) T.d__law_roll.at_ T.d__law_roll.fn.kp T.d__law_roll.bi .nil pass0 (pa_cons (pv 0) (pa_cons pe_int pa_nil))) pe_int (nomark _)) (pss_cons (ps_set (i := 3) sc.nd rfl (.inr rfl) (pe_op op_add pe_int (pe_call G__law_roll (hr.mono (by decide)) (by rfl) T.d__law_roll.at_ T.d__law_roll.fn.kp T.d__law_roll.bi .nil pass0 (pa_cons (pv 0) (pa_cons (pe_callB (call_min2 rfl) (by rfl) T.min (by decide +kernel) (pa_cons pe_int (pa_cons (pe_op op_sub (pv 2) pe_int) pa_nil))) pa_nil)))))
      (pss_one (ps_ret (pe_callTy (k_tupOf K rfl) (by rfl) T.tuple (by decide +kernel) (pa_cons (pe_lc (own := [("_law_turn", 4)]) (g := gName 4) (tt := tYes) rfl sc.nd (pi_range1 rfl T.range (pa_cons (pv 1) pa_nil)) (blkOk_by (N := N__law_chain) (sc := defScope s__law_chain) (by decide +kernel)) (fun _ _ _ _ _ => (pg_name (i := 4) sc.nd rfl (.inl rfl))) (fun _ _ _ _ _ => pts_nil) (fun _ _ _ _ _ => (pe_call G__law_ring_of (hr.mono (by decide)) (by rfl) T.d__law_ring_of.at_ T.d__law_ring_of.fn.kp T.d__law_ring_of.bi .nil pass0 (pa_cons (pv 0) (pa_cons (pv 3) (pa_cons (pe_op op_fdiv (pv 2) (pv 3)) pa_nil)))))) pa_nil))))) pss_nil)
      (pss_one (ps_ret (pe_callTy (k_tupOf K rfl) (by rfl) T.tuple (by decide +kernel) (pa_cons (pe_lc (own := [("_law_turn", 4)]) (g := gName 4) (tt := tYes) rfl sc.nd (pi_range1 rfl T.range (pa_cons (pv 1) pa_nil)) (blkOk_by (N := N__law_chain) (sc := defScope s__law_chain) (by decide +kernel)) (fun _ _ _ _ _ => (pg_name (i := 4) sc.nd rfl (.inl rfl))) (fun _ _ _ _ _ => pts_nil) (fun _ _ _ _ _ => (pe_call G__law_ring (hr.mono (by decide)) (by rfl) T.d__law_ring.at_ T.d__law_ring.fn.kp T.d__law_ring.bi .nil pass0 (pa_cons (pv 0) (pa_cons (pv 2) pa_nil))))) pa_nil))))), ?_⟩
    refine q_when (M := M0) (D := some d) (p := fun _ => True) e0 ?_ (fun _ H1 e1 => ?_) fun _ H1 e1 => ?_
    · intro H2 e2 Q qq
      refine ev_d1 (M := M0) (d := d) (a := (3 : Int)) (ev_var rfl) (er_int) ⟨by omega, by omega⟩ H2 e2 _ fun v H3 e3 ⟨r, ev, _⟩ => ⟨?_, ?_⟩
      · rw [ev]; exact rfl
      · exact ⟨_, rfl, qq _ H3 e3 True.intro⟩
    · refine q_set (M := M0) (D := some d) (P := fun v _ => ∃ i, v = .int i ∧ 2 ≤ i ∧ i ≤ m) (Ex.refl e1.good) (ep_roll (p := fun i => i = 2) (t := if m - 1 < 3 then m - 1 else 3) (ep_int rfl) (ev_d1 (d := d) (ev_var rfl) (er_min er_int (er_sub (er_var (R := RI) rfl rfl) er_int)) (by split <;> omega)) fun i j hi hj => by split at hj <;> omega) fun v1 H2 e2 ⟨k, ev, hk⟩ => ?_
      subst ev
      have hkt : 1 ≤ m / k := by
        have := Int.le_ediv_of_mul_le (a := 1) (b := m) (c := k) (by omega) (by omega)
        exact this
      have hkm : k * (m / k) ≤ m := Int.mul_ediv_self_le (by omega)
      refine s_ret (M := M0) (D := some d) (Ex.refl e2.good) (er_tupN (R := RRg) (PN := fun l => l.length = n ∧ ∀ r ∈ l, Rok r ∧ r.1 ≤ m) ?_) fun v H3 e3 ⟨l, h5, h6⟩ => q v H3 ((e1.trans e2).trans e3) ⟨l, h5, h6⟩
      have key := en_lc (M := M0) (D := some d) (R := RN) (S := RRg) (fun i (l : List KM.Rg) => l.length = i ∧ ∀ r ∈ l, Rok r ∧ r.1 ≤ m) (ei_rng1 (M := M0) (D := some d) (σ := [some (.ref d), some v, some (.int m), some (.int k), none]) (H := H2) (n := n) (er_nat (er_var (i := 1) rfl ((e1.trans e2).mo rn)) rfl) rfl (by omega)) (by rw [List.length_range]; omega) ⟨rfl, fun _ h => nomatch h⟩ (fun i l h => Nat.le_of_eq h.1) (te := tCall sp__law_ring_of [] E0 (tCons (tVar 0) (tCons (tVar 3) (tCons (tOp (rI CDiv fun i j => .int (i / j)) (tVar 2) (tVar 3)) tNil)))) (g := gName 4) (tt := tYes) (vs := [4]) fun i x a l H' hx e r hl => tg_name (fun _ => rfl) ⟨fun b => b = true, et_yes.imp fun _ h => h, fun _ => (ev_d2 (d := d) (ev_var rfl) (er_var (R := RI) (a := k) rfl rfl) (er_fdiv (er_var (R := RI) (a := m) rfl rfl) (er_var (R := RI) (a := k) rfl rfl) ⟨by omega, by omega⟩) ⟨by omega, by omega, hkt, by omega⟩).imp fun v H'' ⟨rg, h5, h6, h7⟩ => ⟨rg, h5, by rw [List.length_append, hl.1]; rfl, fun s hs => ?_⟩, fun h => by cases h⟩
      · intro Hx ex Q qq
        exact key Hx ex Q fun p H4 hn4 e4 ⟨l, l1, l2⟩ => qq p H4 hn4 e4 ⟨l, l1, by rw [List.length_range] at l2; exact l2⟩
      · rcases List.mem_append.mp hs with hs | hs
        · exact hl.2 s hs
        · rw [List.mem_singleton.mp hs]
          exact ⟨h6, by omega⟩
    · refine s_ret (M := M0) (D := some d) (Ex.refl e1.good) (er_tupN (R := RRg) (PN := fun l => l.length = n ∧ ∀ r ∈ l, Rok r ∧ r.1 ≤ m) ?_) fun v H3 e3 ⟨l, h5, h6⟩ => q v H3 (e1.trans e3) ⟨l, h5, h6⟩
      have key := en_lc (M := M0) (D := some d) (R := RN) (S := RRg) (fun i (l : List KM.Rg) => l.length = i ∧ ∀ r ∈ l, Rok r ∧ r.1 ≤ m) (ei_rng1 (M := M0) (D := some d) (σ := [some (.ref d), some v, some (.int m), none, none]) (H := H1) (n := n) (er_nat (er_var (i := 1) rfl (e1.mo rn)) rfl) rfl (by omega)) (by rw [List.length_range]; omega) ⟨rfl, fun _ h => nomatch h⟩ (fun i l h => Nat.le_of_eq h.1) (te := tCall sp__law_ring [] E0 (tCons (tVar 0) (tCons (tVar 2) tNil))) (g := gName 4) (tt := tYes) (vs := [4]) fun i x a l H' hx e r hl => tg_name (fun _ => rfl) ⟨fun b => b = true, et_yes.imp fun _ h => h, fun _ => (ev_d1 (d := d) (ev_var rfl) (er_var (R := RI) (a := m) rfl rfl) ⟨by omega, by omega⟩).imp fun v H'' ⟨rg, h5, h6, h7⟩ => ⟨rg, h5, by rw [List.length_append, hl.1]; rfl, fun s hs => ?_⟩, fun h => by cases h⟩
      · intro Hx ex Q qq
        exact key Hx ex Q fun p H4 hn4 e4 ⟨l, l1, l2⟩ => qq p H4 hn4 e4 ⟨l, l1, by rw [List.length_range] at l2; exact l2⟩
      · rcases List.mem_append.mp hs with hs | hs
        · exact hl.2 s hs
        · rw [List.mem_singleton.mp hs]
          exact ⟨h6, h7⟩
end KX
namespace KX
open PySem PySem.Spec PyProof.Rows L2
section
variable {K : PySem.W.Frag} {M : Ads} {D : Option Addr} {σ : L2.St} {H H0 : Hp} {ta tb te : TE} {α β : Type} {R : Rel α} {S : Rel β} {B : Ends} {PN : Addr → Hp → Prop} {p : Addr}
theorem en_cL [Mo R] {pre : List α → β → Prop} {post : List α → β → Addr → Hp → Prop} {l : List α} {b : β} (h1 : Ev M D ta σ H fun v _ => v = .ref p) (hl : LAt H p R l) (hm : ¬ M p) (hd : D ≠ some p) (h2 : EvR M D tb σ H S b) (hp : pre l b) : EvN M D (tCall (sn2 (RLs R) S pre post) [] E0 (tCons ta (tCons tb tNil))) σ H (post l b) :=
  en_call (ea_cons h1 (ea_one h2)) fun vs H1 e ⟨v, r, ev, p1, w, ew, p2⟩ Q q => ⟨v, w, l, b, by rw [ev, ew]; rfl, ⟨p, p1, e.lat hm hd hl⟩, p2, hp, fun u H' hn s p => q u H' hn (Ex.same e.good.m0 s) p⟩
theorem s_new {i : Nat} (e : Ex M D H0 H) (h : EvN M D te σ H0 PN) (k : ∀ a H2, H a = none → Ex M0 D H H2 → PN a H2 → B.nx (σ.set i (some (.ref a))) H2) : tAsg te (gName i) B σ H := h H e _ k
end
variable {P : Program} {w : World} {K : PySem.W.Frag} {mg : Str → Option Value} {base : PySem.Heap} {A : Nat → Addr} {F : Nat → FuncData}
theorem longer_app (a b : List (List Int)) (n : Int) : KM.longer (a ++ b) n = KM.longer a n ++ KM.longer b n := by
  unfold KM.longer
  rw [List.flatMap_append]
theorem longer_len (n : Int) : ∀ rows : List (List Int), (KM.longer rows n).length = rows.length * n.toNat
  | [] => by simp [KM.longer]
  | r :: rows => by
    have := longer_len n rows
    rw [show r :: rows = [r] ++ rows from rfl, longer_app, List.length_append, this]
    simp [KM.longer, Nat.add_mul]
    omega
def sp__law_longer : Sp := sn2 (RLs RHp) RI (fun rows n => 0 ≤ n ∧ n ≤ 100 ∧ rows.length ≤ 900 ∧ ∀ r ∈ rows, r.length < 1000) fun rows n p H' => LAt H' p RHp (KM.longer rows n)
theorem ok__law_longer (T : Prog K mg A F) : FnOk P w K mg base CX0 1 (A 1) (F 1) ["_law_rows", "_law_n"] sp__law_longer := by
  have sc := sc__law_longer
  refine T.d__law_longer.ok sc__law_longer (fun vs H Q E h => ?_) (fun cdv _ outer s H vs Q E hr h => ?_)
  · obtain ⟨_, _, _, _, rfl, _⟩ := h
    rfl
  · obtain ⟨v, y, rows, n, rfl, ⟨rp, rfl, lr⟩, rn, ⟨h0, h1, h2, h3⟩, q⟩ := h
    refine ⟨_, (pss_cons (ps_set (i := 2) sc.nd rfl (.inl rfl) (pe_lst pa_nil))
      (pss_cons (ps_for PassesOwn.never rfl (k_piL K rfl (pv 0)) (pg_name (i := 3) sc.nd rfl (.inr rfl)) (pss_one (ps_expr (pe_bm PySem.F.plainAttrs_list PySem.F.slot_list_extend PySem.F.type_list_extend mt_extend (pv 2) (pa_cons (pe_lc (own := [("_law_place", 4)]) (g := gName 4) (tt := tYes) rfl sc.nd (pi_range1 rfl T.range (pa_cons (pv 1) pa_nil)) (blkOk_by (N := N__law_longer) (sc := defScope s__law_longer) (by decide +kernel)) (fun _ _ _ _ _ => (pg_name (i := 4) sc.nd rfl (.inl rfl))) (fun _ _ _ _ _ => pts_nil) (fun _ _ _ _ _ => (pe_op (k_cat K rfl) (pv 3) (pe_tup (pa_cons (pv 4) pa_nil))))) pa_nil)))))
      (pss_one (ps_ret (pv 2))))), ?_⟩
    refine q_new (M := M0) (D := none) e00 (el_nil (R := RHp)) fun f H1 hf e1 lf => ?_
    have g1 := good1 (lat_some lf)
    have lr1 : LAt H1 rp RHp rows := e1.lat (fun z => z) (fun z => nomatch z) lr
    have hrf : rp ≠ f := fun e => lat_some lr (by rw [e]; exact hf)
    refine q_for (Ex.refl g1) (ei_lst (ev_var rfl) lr1 hrf (fun z => nomatch z)) (fun i σ' H' => (∃ a b, σ' = [some (.ref rp), some y, some (.ref f), a, b]) ∧ LAt H' f RHp (KM.longer (rows.take i) n)) ⟨⟨_, _, rfl⟩, lf⟩ (fun i σ' H' H'' ⟨h1, h2⟩ e => ⟨h1, e.lat (fun z => z) (fun z => nomatch z) h2⟩) ?_ ?_
    · rintro i u row σ' H' hx e r ⟨⟨a, b, rfl⟩, hl⟩ N hN
      have hil := (List.getElem?_eq_some_iff.mp hx).1
      have hrow := h3 row (List.mem_of_getElem? hx)
      refine g_name ?_
      refine ev_ext (M := fun a => a = f) (l := KM.longer (rows.take i) n) (m := (List.range n.toNat).map fun p : Nat => row ++ [(p : Int)]) (ev_var rfl) hl ?_ rfl e.good (el_map (R := RN) (S := RHp) (fun p : Nat => row ++ [(p : Int)]) (ei_rng1 (n := n.toNat) (er_var rfl rn) (by omega) (by omega)) (by rw [List.length_range]; omega) fun j x p H'' hxp e2 rp2 => tg_name (fun _ => rfl) (er_cat (er_var rfl (e2.mo r)) (er_tup1 (R := RI) (er_nat (er_var rfl rp2) rfl)) (by simp; omega))) fun H2 e2 l2 => hN _ H2 e2 ⟨⟨_, _, rfl⟩, ?_⟩
      · rw [longer_len, List.length_map, List.length_range, List.length_take]
        have : min i rows.length * n.toNat ≤ 900 * 100 := Nat.mul_le_mul (by omega) (by omega)
        omega
      · rw [take_step hx, longer_app]
        simpa [KM.longer] using l2
    · rintro σ' H' e ⟨⟨a, b, rfl⟩, hl⟩
      rw [List.take_length] at hl
      refine s_ret (M := M0) (D := none) (Ex.refl good0) (ev_var rfl) fun v H2 e2 p => ?_
      rw [p]
      exact q f H2 hf ((back1 e1 hf e).trans e2.toSame) (e2.lat (fun z => z) (fun z => nomatch z) hl)
theorem allTF_snoc (rows : List (List Int)) (ch : List KM.Rg) (r : KM.Rg) : KM.allTFrom rows (ch ++ [r]) = KM.longer (KM.allTFrom rows ch) r.1 := by
  unfold KM.allTFrom
  rw [List.foldl_append]
  rfl
theorem allT_len : ∀ (n : Nat) (ch : List KM.Rg), ch.length = n → (∀ r ∈ ch, r.1 ≤ 5) → (KM.allT ch).length ≤ 5 ^ n
  | 0, ch, h, _ => by
    rw [List.eq_nil_of_length_eq_zero h]
    exact Nat.le_refl _
  | n + 1, ch, h, hr => by
    have hne : ch ≠ [] := fun e => by rw [e] at h; simp at h
    have e := (List.dropLast_concat_getLast hne).symm
    have hl : ch.dropLast.length = n := by rw [List.length_dropLast]; omega
    have ih := allT_len n ch.dropLast hl fun r hm => hr r (List.dropLast_subset _ hm)
    have hlast := hr _ (List.getLast_mem hne)
    rw [e]
    unfold KM.allT at ih ⊢
    rw [allTF_snoc, longer_len, Nat.pow_succ]
    exact Nat.mul_le_mul ih (by omega)
def sp__law_all_tuples : Sp := sn1 RCh (fun ch => (∀ r ∈ ch, Rok r ∧ r.1 ≤ 5) ∧ ch.length ≤ 5) fun ch p H' => LAt H' p RHp (KM.allT ch)
theorem ok__law_all_tuples (T : Prog K mg A F) : FnOk P w K mg base CX0 2 (A 2) (F 2) ["_law_chain_here"] sp__law_all_tuples := by
  have G__law_longer := ok__law_longer (P := P) (w := w) (base := base) T
  have sc := sc__law_all_tuples
  refine T.d__law_all_tuples.ok sc__law_all_tuples (fun vs H Q E h => ?_) (fun cdv _ outer s H vs Q E hr h => ?_)
  · obtain ⟨_, _, rfl, _⟩ := h
    rfl
  · obtain ⟨v, ch, rfl, rc, ⟨hr', hl⟩, q⟩ := h
    refine ⟨_, (pss_cons (ps_set (i := 1) sc.nd rfl (.inl rfl) (pe_lst (pa_cons (pe_tup pa_nil) pa_nil)))
      (pss_cons (ps_for PassesOwn.never rfl (k_piT K rfl (pv 0)) (k_pgT K rfl rfl (pgs_cons (pg_name (i := 2) sc.nd rfl (.inl rfl)) (pgs_cons (pg_name (i := 3) sc.nd rfl (.inl rfl)) pgs_nil))) (pss_one (ps_set (i := 1) sc.nd rfl (.inl rfl) (pe_call G__law_longer (hr.mono (by decide)) (by rfl) T.d__law_longer.at_ T.d__law_longer.fn.kp T.d__law_longer.bi .nil pass0 (pa_cons (pv 1) (pa_cons (pv 2) pa_nil))))))
      (pss_one (ps_ret (pv 1))))), ?_⟩
    refine q_new (M := M0) (D := none) e00 (el_one (R := RHp) (er_tup0 (R := RI))) fun f H1 hf e1 lf => ?_
    refine q_for (M := M0) (D := none) (Ex.refl good0) (ei_tup (er_var rfl (e1.mo rc))) (fun i σ' H' => ∃ f, (∃ a b, σ' = [some v, some (.ref f), a, b]) ∧ LAt H' f RHp (KM.allT (ch.take i)) ∧ H f = none) ⟨f, ⟨_, _, rfl⟩, lf, hf⟩ (fun i σ' H' H'' ⟨f, h1, h2, h3⟩ e => ⟨f, h1, e.lat (fun z => z) (fun z => nomatch z) h2, h3⟩) ?_ ?_
    · rintro i u rg σ' H' hx e r ⟨f, ⟨a, b, rfl⟩, lf, hf⟩ N hN
      have hil := (List.getElem?_eq_some_iff.mp hx).1
      have hrg := hr' rg (List.mem_of_getElem? hx)
      have h2 := hrg.1.ok.two
      refine g_pair r fun vn vs rn rs => ?_
      have hlen : (ch.take i).length = i := by rw [List.length_take]; omega
      have hal := allT_len i (ch.take i) hlen fun r hm => (hr' r (List.mem_of_mem_take hm)).2
      have h5 : 5 ^ i ≤ 5 ^ 4 := Nat.pow_le_pow_right (by omega) (by omega)
      have hpre : 0 ≤ rg.1 ∧ rg.1 ≤ 100 ∧ (KM.allT (ch.take i)).length ≤ 900 ∧ ∀ r ∈ KM.allT (ch.take i), r.length < 1000 := ⟨by omega, by omega, by omega, fun x hx => by
        have := (KM.mem_allT.mp hx).len
        omega⟩
      refine s_new (M := M0) (D := none) (Ex.refl good0) (en_cL (ev_var rfl) lf (fun z => z) (fun z => nomatch z) (er_var rfl rn) hpre) fun f2 H2 hf2 e2 l2 => hN _ H2 e2 ⟨f2, ⟨_, _, rfl⟩, ?_, (e1.trans e).there f2 hf2⟩
      rw [take_step hx]
      unfold KM.allT at l2 ⊢
      rw [allTF_snoc]
      exact l2
    · rintro σ' H' e ⟨f, ⟨a, b, rfl⟩, lf, hf⟩
      rw [List.take_length] at lf
      refine s_ret (M := M0) (D := none) (Ex.refl good0) (ev_var rfl) fun v H2 e2 p => ?_
      rw [p]
      exact q f H2 hf ((e1.trans e).trans e2).toSame (e2.lat (fun z => z) (fun z => nomatch z) lf)
def gl (h : List Int) (p : Int → Bool) (i : Nat) : List Int := (List.range h.length).map fun c => if c < i then KM.rise h p c else KM.hgt h c
theorem gl_get {h : List Int} {p : Int → Bool} {i c : Nat} (hc : c < h.length) : (gl h p i)[c]? = some (if c < i then KM.rise h p c else KM.hgt h c) := by
  unfold gl
  rw [List.getElem?_map, List.getElem?_range hc]
  rfl
theorem gl_len (h : List Int) (p : Int → Bool) (i : Nat) : (gl h p i).length = h.length := by simp [gl]
theorem gl_zero (h : List Int) (p : Int → Bool) : gl h p 0 = h := by
  refine List.ext_getElem? fun c => ?_
  by_cases hc : c < h.length
  · rw [gl_get hc, if_neg (by omega), List.getElem?_eq_getElem hc, KM.hgt_lt h hc]
  · rw [List.getElem?_eq_none_iff.mpr (by rw [gl_len]; omega), List.getElem?_eq_none_iff.mpr (by omega)]
theorem gl_same {h : List Int} {p : Int → Bool} {i : Nat} (e : KM.rise h p i = KM.hgt h i) : gl h p (i + 1) = gl h p i := by
  unfold gl
  refine List.map_congr_left fun c _ => ?_
  by_cases z : c = i
  · subst z
    rw [if_pos (by omega), if_neg (by omega), e]
  · by_cases z2 : c < i
    · rw [if_pos (by omega), if_pos z2]
    · rw [if_neg (by omega), if_neg z2]
theorem gl_set {h : List Int} {p : Int → Bool} {i : Nat} (hi : i < h.length) (e : KM.rise h p i = KM.hgt h i + 1) : (gl h p i).set i (KM.hgt h i + 1) = gl h p (i + 1) := by
  refine List.ext_getElem? fun c => ?_
  rw [List.getElem?_set, gl_len]
  by_cases hc : c < h.length
  · rw [gl_get hc, gl_get hc]
    by_cases z : i = c
    · subst z
      rw [if_pos rfl, if_pos hi, if_pos (by omega), e]
    · rw [if_neg z]
      by_cases z2 : c < i
      · rw [if_pos z2, if_pos (by omega)]
      · rw [if_neg z2, if_neg (by omega)]
  · rw [if_neg (by omega), List.getElem?_eq_none_iff.mpr (by rw [gl_len]; omega), List.getElem?_eq_none_iff.mpr (by rw [gl_len]; omega)]
theorem gl_end {h : List Int} (Hh : KM.Heap h) (p : Int → Bool) : KM.growP h p = gl h p h.length ++ if KM.rise h p h.length = 1 then [1] else [] := by
  unfold KM.growP
  have hup := KM.rise_up h p h.length
  have hle := KM.rise_le h p h.length
  have hz := KM.hgt_ge h (Nat.le_refl h.length)
  have e1 : KM.ofF h.length (KM.rise h p) = gl h p h.length := by
    rw [KM.ofF_all fun c hc => by have := Hh.one hc; have := KM.rise_le h p c; omega]
    unfold gl
    refine List.map_congr_left fun c hc => ?_
    rw [if_pos (List.mem_range.mp hc)]
  rw [KM.ofF_succ, e1]
  by_cases q : KM.rise h p h.length = 1
  · rw [if_pos q, if_pos (by omega), q]
  · rw [if_neg q, if_neg (by omega)]
def sp__law_grown : Sp := sp3 RHp RRg RI (fun h r _ => h.length < 1000 ∧ KM.Heap h ∧ Rok r) fun h r x v H' => RHp H' v (KM.grow h r x)
theorem ok__law_grown (T : Prog K mg A F) : FnOk P w K mg base CX0 1 (A 3) (F 3) ["_law_heap_here", "_law_ring_here", "_law_x"] sp__law_grown := by
  have sc := sc__law_grown
  refine T.d__law_grown.ok sc__law_grown (fun vs H Q E h => ?_) (fun cdv _ outer s H vs Q E hr h => ?_)
  · obtain ⟨_, _, _, _, _, _, rfl, _⟩ := h
    rfl
  · obtain ⟨v, y, z, h, r, x, rfl, rh, rr, rx, ⟨hl, Hh, hr'⟩, q⟩ := h
    have h1 := hr'.ok.two
    have h4 := hr'.le
    have h2 := hr'.ok.s1
    have h3 := hr'.ok.s2
    refine ⟨_, (pss_cons (ps_asg (pv 1) (k_pgT K rfl rfl (pgs_cons (pg_name (i := 3) sc.nd rfl (.inl rfl)) (pgs_cons (pg_name (i := 4) sc.nd rfl (.inl rfl)) pgs_nil))))
      (pss_cons (ps_set (i := 5) sc.nd rfl (.inl rfl) (pe_callTy (k_lstOf K rfl) (by rfl) T.list (by decide +kernel) (pa_cons (pv 0) pa_nil)))
      (pss_cons (ps_for PassesOwn.never rfl (pi_range1 rfl T.range (pa_cons (pe_op op_add (pe_callB (k_len K rfl) (by rfl) T.len (by decide +kernel) (pa_cons (pv 0) pa_nil)) pe_int) pa_nil)) (pg_name (i := 6) sc.nd rfl (.inl rfl)) (pss_cons (ps_set (i := 7) sc.nd rfl (.inl rfl) (pe_ifExp (pt_cmpR op_lt (pv 6) (pe_callB (k_len K rfl) (by rfl) T.len (by decide +kernel) (pa_cons (pv 0) pa_nil)) (nomark _)) (pe_ix (k_ixT K rfl) (pv 0) (pv 6) (fun _ _ => rfl)) pe_int))
      (pss_cons (ps_set (i := 8) sc.nd rfl (.inl rfl) (pe_or (pe_cmpR op_eq (pv 6) pe_int (nomark _)) (pe_one (pe_cmpR op_gt (pe_ix (k_ixT K rfl) (pv 0) (pe_op op_sub (pv 6) pe_int) (fun _ _ => rfl)) (pv 7) (nomark _)))))
      (pss_one (ps_if (PW.pt (pw_and (pt_val (pv 8)) (pw_and1 (pt_cmpR op_eq (pe_op op_mod (pe_op op_sub (pe_op op_mul (pe_op op_sub (pv 6) (pv 7)) (pv 4)) (pv 2)) (pv 3)) pe_int (nomark _))))) (pss_one (ps_if (pt_cmpR op_lt (pv 6) (pe_callB (k_len K rfl) (by rfl) T.len (by decide +kernel) (pa_cons (pv 0) pa_nil)) (nomark _)) (pss_one (ps_asg (pe_op op_add (pv 7) pe_int) (pg_sub (pv 5) (pv 6) set_list))) (pss_one (ps_expr (pe_bm PySem.F.plainAttrs_list PySem.F.slot_list_append PySem.F.type_list_append mt_append (pv 5) (pa_cons pe_int pa_nil)))))) pss_nil)))))
      (pss_one (ps_ret (pe_callTy (k_tupOf K rfl) (by rfl) T.tuple (by decide +kernel) (pa_cons (pv 5) pa_nil))))))), ?_⟩
    refine q_pair (M := M0) (D := none) e00 (er_var rfl rr) fun vn vs H1 e1 rn rs => ?_
    refine q_new (M := M0) (D := none) (Ex.refl good0) (el_list (er_var rfl (e1.mo rh))) fun f H2 hf e2 lf => ?_
    have g2 := good1 (lat_some lf)
    have e12 := e1.trans e2
    have rh2 := e12.mo rh
    have rx2 := e12.mo rx
    have rn2 := e2.mo rn
    have rs2 := e2.mo rs
    have hup := KM.rise_up h (KM.lets r x)
    have hle := KM.rise_le h (KM.lets r x)
    refine q_for (R := RN) (xs := List.range (h.length + 1)) (Ex.refl g2) (ei_rng1 (n := h.length + 1) (er_add (er_nat (er_lenT (er_var rfl rh2)) rfl) er_int) rfl (by omega)) (fun i σ' H' => (∃ a b c, σ' = [some v, some y, some z, some vn, some vs, some (.ref f), a, b, c]) ∧ LAt H' f RI (if i ≤ h.length then gl h (KM.lets r x) i else KM.grow h r x)) ⟨⟨_, _, _, rfl⟩, by rw [if_pos (Nat.zero_le _), gl_zero]; exact lf⟩ (fun i σ' H' H'' ⟨h1, h2⟩ e => ⟨h1, e.lat (fun z => z) (fun z => nomatch z) h2⟩) ?_ ?_
    · rintro i u c σ' H' hx e rc ⟨⟨a, b, cc, rfl⟩, hlat⟩ N hN
      have hil := (List.getElem?_eq_some_iff.mp hx).1
      rw [List.length_range] at hil
      rw [List.getElem?_range hil] at hx
      cases hx
      rw [if_pos (by omega)] at hlat
      refine g_name ?_
      have rh3 := e.mo rh2
      have hz := KM.hgt_ge h (Nat.le_refl h.length)
      refine q_set (M := M0) (D := none) (P := fun v _ => v = .int (KM.hgt h i)) (Ex.refl good0) (ev_if (p := fun b => b = decide (i < h.length)) (EvT.imp (et_test (er_lt (er_nat (er_var rfl rc) rfl) (er_nat (er_lenT (er_var rfl rh3)) rfl))) fun b hb => by rw [hb]; exact decide_eq_decide.mpr (by omega)) (fun hb => ?_) fun hb => ?_) fun v7 H3 e3 p7 => ?_
      · have hb := of_decide_eq_true hb.symm
        exact er_ixT (R := RI) (j := i) (er_var rfl rh3) (er_nat (er_var rfl rc) rfl) rfl (by rw [List.getElem?_eq_getElem hb, KM.hgt_lt h hb])
      · have hb := of_decide_eq_false hb.symm
        have : i = h.length := by omega
        rw [this, hz]
        exact ev_c
      subst p7
      have rh4 := e3.mo rh3
      have rc4 := e3.mo rc
      refine q_set (M := M0) (D := none) (P := fun v _ => v = .bl (KM.canAdd h i)) (Ex.refl good0) (EvR.eq (R := RB) (er_orV (b := decide (KM.hgt h i < KM.hgt h (i - 1))) (er_eq (er_nat (er_var rfl rc4) rfl) er_int) fun h0 => ?_) ?_) fun v8 H4 e4 p8 => ?_
      · have h0 : ¬ (i : Int) = 0 := of_decide_eq_false h0
        exact er_gt (er_ixT (R := RI) (j := i - 1) (a := KM.hgt h (i - 1)) (er_var rfl rh4) (er_sub (er_nat (er_var rfl rc4) rfl) er_int) (by omega) (by rw [List.getElem?_eq_getElem (by omega), KM.hgt_lt h (by omega)])) (er_var (R := RI) rfl rfl)
      · unfold KM.canAdd
        congr 1
        exact decide_eq_decide.mpr (by omega)
      subst p8
      have rc5 := e4.mo rc4
      have e34 := e3.trans e4
      have ee := (e.then e34)
      have hl4 := e34.lat (fun z => z) (fun z => nomatch z) hlat
      have rs5 := ee.mo rs2
      have rn5 := ee.mo rn2
      have rx5 := ee.mo rx2
      have eup := e34.up e.good
      refine s_when (M := M0) (D := none) (Ex.refl good0) (et_and (et_B (er_var (R := RB) (a := KM.canAdd h i) rfl rfl)) fun _ => et_test (b := KM.lets r x ((i : Int) - KM.hgt h i)) (er_eq (er_mod (er_sub (er_mul (er_sub (er_nat (er_var rfl rc5) rfl) (er_var (R := RI) rfl rfl)) (er_var rfl rs5) (.inr (by omega))) (er_var rfl rx5)) (er_var rfl rn5) (by omega)) er_int)) (fun hb H5 e5 => ?_) fun hb H5 e5 => ?_
      · have hrise : KM.rise h (KM.lets r x) i = KM.hgt h i + 1 := by
          unfold KM.rise
          rw [if_pos hb.symm]
        have rc6 := e5.mo rc5
        have rh6 := (e4.trans e5).mo rh4
        have hl5 := e5.lat (fun z => z) (fun z => nomatch z) hl4
        refine s_if (M := M0) (D := none) (Ex.refl good0) (et_test (er_lt (er_nat (er_var rfl rc6) rfl) (er_nat (er_lenT (er_var rfl rh6)) rfl))) (fun hb2 H6 e6 => ?_) fun hb2 H6 e6 => ?_
        · have hlt : i < h.length := by
            have := of_decide_eq_true hb2.symm
            omega
          have hl6 := e6.lat (fun z => z) (fun z => nomatch z) hl5
          have e46 := (e34.trans e5).trans e6
          refine ev_put (D := none) (M := fun a => a = f) (a := KM.hgt h i + 1) (j := i) (er_add (er_var (R := RI) rfl rfl) er_int) (ev_var rfl) (er_nat (er_var rfl (e6.mo rc6)) rfl) hl6 (by rw [gl_len]; exact hlt) rfl rfl (fun z => nomatch z) (e46.up e.good).good fun H7 e7 l7 => hN _ H7 ((e46.up e.good).trans e7) ⟨⟨_, _, _, rfl⟩, ?_⟩
          rw [if_pos (by omega), ← gl_set hlt hrise]
          exact l7
        · have hge : i = h.length := by
            have := of_decide_eq_false hb2.symm
            omega
          have hl6 := e6.lat (fun z => z) (fun z => nomatch z) hl5
          have e46 := (e34.trans e5).trans e6
          refine ev_app (D := none) (M := fun a => a = f) (l := gl h (KM.lets r x) i) (a := (1 : Int)) (ev_var rfl) hl6 (by rw [gl_len]; omega) rfl (fun z => nomatch z) (e46.up e.good).good er_int fun H7 e7 l7 => hN _ H7 ((e46.up e.good).trans e7) ⟨⟨_, _, _, rfl⟩, ?_⟩
          subst hge
          rw [if_neg (by omega)]
          unfold KM.grow
          rw [gl_end Hh, if_pos (by rw [hrise, hz]; rfl)]
          exact l7
      · have hrise : KM.rise h (KM.lets r x) i = KM.hgt h i := by
          unfold KM.rise
          rw [if_neg (by rw [← hb]; decide), Int.add_zero]
        refine hN _ H5 ((e34.trans e5).up e.good) ⟨⟨_, _, _, rfl⟩, ?_⟩
        have hl5 := e5.lat (fun z => z) (fun z => nomatch z) hl4
        by_cases hlt : i < h.length
        · rw [if_pos (by omega), gl_same hrise]
          exact hl5
        · have hge : i = h.length := by omega
          subst hge
          rw [if_neg (by omega)]
          unfold KM.grow
          rw [gl_end Hh, if_neg (by rw [hrise, hz]; decide), List.append_nil]
          exact hl5
    · rintro σ' H' e ⟨⟨a, b, c, rfl⟩, hlat⟩
      rw [List.length_range, if_neg (by omega)] at hlat
      exact s_ret (M := M0) (D := none) (Ex.refl good0) (er_tupA (ev_var rfl) hlat (fun z => z) (fun z => nomatch z)) fun v H3 e3 p => q v H3 ((back1 e12 (e1.there f hf) e).trans e3.toSame) p
end KX
namespace KX
open PySem PySem.Spec PyProof.Rows L2
/-! ### lists compared -/
class DpR {α : Type} (R : Rel α) where
  dd : α → PyData
  dp : ∀ {K : PySem.W.Frag} {H : Hp} {v : V} {a : α}, R H v a → Dp K H v (dd a)
  lay : ∀ a, (dd a).canLay0 = true
  dep : ∀ a, (dd a).depth ≤ 2
def intsD (l : List Int) : PyData := .tuple (l.map .int)
theorem lay_ints : ∀ l : List Int, PyData.canLayAll0 (l.map .int) = true
  | [] => by simp [PyData.canLayAll0]
  | n :: l => by simp [PyData.canLayAll0, PyData.canLay0, lay_ints l]
theorem dep_ints : ∀ l : List Int, PyData.depthAll (l.map .int) ≤ 1
  | [] => by simp [PyData.depthAll]
  | n :: l => by
    have := dep_ints l
    simp only [List.map_cons, PyData.depthAll, PyData.depth]
    omega
theorem dp_int {K : PySem.W.Frag} {H : Hp} : ∀ {xs : List V} {l : List Int}, Paired (RI H) xs l → DpAll K H xs (l.map .int)
  | _, _, .nil => .nil
  | _, _, .cons r t => by rw [show _ = V.int _ from r]; exact .cons (.int _) (dp_int t)
instance : DpR RI := ⟨PyData.int, fun h => by rw [show _ = V.int _ from h]; exact .int _, fun _ => by simp [PyData.canLay0], fun _ => by simp [PyData.depth]⟩
instance : DpR RHp := ⟨intsD, fun ⟨a, xs, e, h1, h2⟩ => by rw [e]; exact .tup (SqT.of h1) (dp_int h2), fun l => by simp [intsD, PyData.canLay0, lay_ints l], fun l => by
  have := dep_ints l
  simp only [intsD, PyData.depth]
  omega⟩
section
variable {K : PySem.W.Frag} {M : Ads} {D : Option Addr} {σ : L2.St} {H H0 Hb H' : Hp} {ta tb tc td te : TE} {α β γ : Type} {R : Rel α}
theorem dpr_all [DpR R] : ∀ {xs : List V} {l : List α}, Paired (R H) xs l → DpAll K H xs (l.map (DpR.dd R))
  | _, _, .nil => .nil
  | _, _, .cons r t => .cons (DpR.dp r) (dpr_all t)
theorem dpr_lay [DpR R] : ∀ l : List α, PyData.canLayAll0 (l.map (DpR.dd R)) = true
  | [] => by simp [PyData.canLayAll0]
  | n :: l => by simp [PyData.canLayAll0, DpR.lay (R := R) n, dpr_lay l]
theorem dpr_dep [DpR R] : ∀ l : List α, PyData.depthAll (l.map (DpR.dd R)) ≤ 2
  | [] => by simp [PyData.depthAll]
  | n :: l => by
    have h1 := DpR.dep (R := R) n
    have h2 := dpr_dep l
    simp only [List.map_cons, PyData.depthAll]
    omega
theorem dpr_shaped [DpR R] (l : List α) : SeqAt.shaped (.list (l.map (DpR.dd R))) = true := by
  have h1 := dpr_dep (R := R) l
  show (PyData.canLay0 (.list (l.map (DpR.dd R))) && decide (PyData.depth (.list (l.map (DpR.dd R))) ≤ 64)) = true
  rw [Bool.and_eq_true]
  refine ⟨by simp only [PyData.canLay0]; exact dpr_lay l, decide_eq_true ?_⟩
  simp only [PyData.depth]
  omega
theorem nil_eqv (l : List PyData) : PyData.eqv (.list l) (.list []) = l.isEmpty := by
  cases l <;> simp [PyData.eqv, PyData.eqvAll]
theorem ints_eqvA : ∀ l m : List Int, PyData.eqvAll (l.map .int) (m.map .int) = decide (l = m)
  | [], [] => by simp [PyData.eqvAll]
  | [], _ :: _ => by simp [PyData.eqvAll]
  | _ :: _, [] => by simp [PyData.eqvAll]
  | x :: l, y :: m => by
    simp only [List.map_cons, PyData.eqvAll, PyData.eqv, ints_eqvA l m]
    by_cases h : x = y
    · subst h; simp
    · simp [h]
theorem npD {p : Addr} (g : Good M D H) (h : H p = none) : D ≠ some p := fun z => by
  obtain ⟨_, _, _, w⟩ := g.dice p z
  rw [h] at w
  cases w
/-- l == [], l new -/
theorem er_eqE [Mo R] [DpR R] {l : List α} (ha : EvL M D ta σ H R l) : EvR M D (tOp (rEqD K) ta (tLst tNil)) σ H RB l.isEmpty := fun H1 e Q q =>
  ha H1 e _ fun p H2 hp e2 la => el_nil (R := RI) H2 (e.then e2) _ fun b H3 hb e3 lb => by
    obtain ⟨xs, h1, h2⟩ := e3.lat (fun z => z) (npD e.good.m0 hp) la
    obtain ⟨ys, h3, h4⟩ := lb
    cases h4
    refine ⟨.list (l.map (DpR.dd R)), .list [], .lst (SqL.of h1) (dpr_all h2), .lst (SqL.of h3) .nil, dpr_shaped l, by simp [SeqAt.shaped, PyData.canLay0, PyData.canLayAll0, PyData.depth, PyData.depthAll], q _ H3 (e2.trans e3) ?_⟩
    show V.bl _ = V.bl _
    rw [nil_eqv]
    cases l <;> rfl
theorem er_neE [Mo R] [DpR R] {l : List α} (ha : EvL M D ta σ H R l) : EvR M D (tOp (rNeD K) ta (tLst tNil)) σ H RB (!l.isEmpty) := fun H1 e Q q =>
  ha H1 e _ fun p H2 hp e2 la => el_nil (R := RI) H2 (e.then e2) _ fun b H3 hb e3 lb => by
    obtain ⟨xs, h1, h2⟩ := e3.lat (fun z => z) (npD e.good.m0 hp) la
    obtain ⟨ys, h3, h4⟩ := lb
    cases h4
    refine ⟨.list (l.map (DpR.dd R)), .list [], .lst (SqL.of h1) (dpr_all h2), .lst (SqL.of h3) .nil, dpr_shaped l, by simp [SeqAt.shaped, PyData.canLay0, PyData.canLayAll0, PyData.depth, PyData.depthAll], q _ H3 (e2.trans e3) ?_⟩
    show V.bl _ = V.bl _
    rw [nil_eqv]
    cases l <;> rfl
/-- l != m, l new, m standing -/
theorem er_neI {l m : List Int} {p : Addr} (ha : EvL M D ta σ H RI l) (hb : Ev M D tb σ H fun v _ => v = .ref p) (hl : LAt H p RI m) (hm : ¬ M p) (hd : D ≠ some p) : EvR M D (tOp (rNeD K) ta tb) σ H RB (!decide (l = m)) := fun H1 e Q q =>
  ha H1 e _ fun p1 H2 hp1 e2 la => hb H2 (e.then e2) _ fun v H3 e3 pv => by
    obtain ⟨xs, h1, h2⟩ := e3.lat (fun z => z) (npD e.good.m0 hp1) la
    obtain ⟨ys, h3, h4⟩ := ((e.then e2).then e3).lat hm hd hl
    subst pv
    refine ⟨.list (l.map .int), .list (m.map .int), .lst (SqL.of h1) (dp_int h2), .lst (SqL.of h3) (dp_int h4), dpr_shaped (R := RI) l, dpr_shaped (R := RI) m, q _ H3 (e2.trans e3) ?_⟩
    show V.bl _ = V.bl _
    rw [show PyData.eqv (.list (l.map .int)) (.list (m.map .int)) = PyData.eqvAll (l.map .int) (m.map .int) by simp [PyData.eqv], ints_eqvA]
end
variable {P : Program} {w : World} {K : PySem.W.Frag} {mg : Str → Option Value} {base : PySem.Heap} {A : Nat → Addr} {F : Nat → FuncData}
def sp__law_heap : Sp := sp2 RCh RHp (fun ch x => Cok ch ∧ ch.length = x.length) fun ch x v H' => RHp H' v (KM.heapOf ch x)
theorem ok__law_heap (T : Prog K mg A F) : FnOk P w K mg base CX0 2 (A 4) (F 4) ["_law_chain_here", "_law_x"] sp__law_heap := by
  have G__law_grown := ok__law_grown (P := P) (w := w) (base := base) T
  have sc := sc__law_heap
  refine T.d__law_heap.ok sc__law_heap (fun vs H Q E h => ?_) (fun cdv _ outer s H vs Q E hr h => ?_)
  · obtain ⟨_, _, _, _, rfl, _⟩ := h
    rfl
  · obtain ⟨v, y, ch, x, rfl, rc, rx, ⟨ok, hl⟩, q⟩ := h
    have h12 := ok.most
    refine ⟨_, (pss_cons (ps_set (i := 2) sc.nd rfl (.inl rfl) (pe_tup pa_nil))
      (pss_cons (ps_for PassesOwn.never rfl (k_zip K rfl (by rfl) T.zip (pa_cons (pv 0) (pa_cons (pv 1) pa_nil))) (k_pgT K rfl rfl (pgs_cons (pg_name (i := 3) sc.nd rfl (.inl rfl)) (pgs_cons (pg_name (i := 4) sc.nd rfl (.inl rfl)) pgs_nil))) (pss_one (ps_set (i := 2) sc.nd rfl (.inl rfl) (pe_call G__law_grown (hr.mono (by decide)) (by rfl) T.d__law_grown.at_ T.d__law_grown.fn.kp T.d__law_grown.bi .nil pass0 (pa_cons (pv 2) (pa_cons (pv 3) (pa_cons (pv 4) pa_nil)))))))
      (pss_one (ps_ret (pv 2))))), ?_⟩
    refine q_set (M := M0) (D := none) e00 (er_tup0 (R := RI)) fun v0 H1 e1 r0 => ?_
    refine q_for (M := M0) (D := none) (Ex.refl good0) (ei_zipT (er_var rfl (e1.mo rc)) (er_var rfl (e1.mo rx))) (fun i σ' H' => ∃ u, (∃ a b, σ' = [some v, some y, some u, a, b]) ∧ RHp H' u (KM.heapOf (ch.take i) (x.take i))) ⟨v0, ⟨_, _, rfl⟩, by simpa [KM.heapOf, KM.heapFrom] using r0⟩ (fun i σ' H' H'' ⟨u, h1, h2⟩ e => ⟨u, h1, e.mo h2⟩) ?_ ?_
    · rintro i u p σ' H' hx e r ⟨u0, ⟨a, b, rfl⟩, ru⟩ N hN
      obtain ⟨hx1, hx2⟩ := List.getElem?_zip_eq_some.mp hx
      have hi := (List.getElem?_eq_some_iff.mp hx1).1
      refine g_pair r fun vr vp rr rp => ?_
      have hlen := heapOf_len (ch.take i) (x.take i)
      rw [List.length_take] at hlen
      refine s_set (M := M0) (D := none) (Ex.refl good0) (ev_c3 (er_var rfl ru) (er_var rfl rr) (er_var rfl rp) ⟨by omega, KM.heapOf_heap _ _, ok.ok _ (List.mem_of_getElem? hx1)⟩) fun v2 H2 e2 p2 => hN _ H2 e2 ⟨v2, ⟨_, _, rfl⟩, ?_⟩
      rw [take_step hx1, take_step hx2, KM.heapOf_snoc (by rw [List.length_take, List.length_take]; omega)]
      exact p2
    · rintro σ' H' e ⟨u0, ⟨a, b, rfl⟩, ru⟩
      have e9 : (ch.zip x).length = ch.length := by rw [List.length_zip]; omega
      rw [e9, List.take_length, hl, List.take_length] at ru
      exact s_ret (M := M0) (D := none) (Ex.refl good0) (er_var rfl ru) fun v H2 e2 p => q v H2 ((e1.trans e).trans e2).toSame p
def RichIs (h : List Int) (g : Nat) (t : Int) (v : V) : Prop := ∃ r : Int, v = .int r ∧ ∀ k : Nat, decide ((k : Int) ≤ r) = KM.richGE h g t k
theorem er_max {M : Ads} {D : Option Addr} {σ : L2.St} {H : Hp} {ta tb : TE} {i j : Int} (ha : EvR M D ta σ H RI i) (hb : EvR M D tb σ H RI j) : EvR M D (tCB (fun xs H Q => ∃ i j, xs = [.int i, .int j] ∧ Q (.int (if j > i then j else i)) H) (tCons ta (tCons tb tNil))) σ H RI (if j > i then j else i) := fun H1 e Q q =>
  ha H1 e _ fun x H2 e2 px => hb H2 (e.then e2) _ fun y H3 e3 py => ⟨i, j, by rw [show x = .int i from px, show y = .int j from py], q _ H3 (e2.trans e3) rfl⟩
theorem rich_at {h : List Int} {g : Nat} {t : Int} {j : Nat} (hlow : ¬ (2 * (g : Int) - 2 < t ∨ t < 0)) (hall : ∀ i, i < j → KM.okk h g t i = true) (hno : KM.okk h g t j = false) (k : Nat) : decide ((k : Int) ≤ (j : Int) - 1) = KM.richGE h g t k := by
  unfold KM.richGE
  rw [if_neg hlow]
  by_cases hk : k < j
  · rw [decide_eq_true (by omega)]
    exact (List.all_eq_true.mpr fun i hi => hall i (by have := List.mem_range.mp hi; omega)).symm
  · rw [decide_eq_false (by omega)]
    cases hb : (List.range (k + 1)).all (KM.okk h g t) with
    | false => rfl
    | true =>
      have := List.all_eq_true.mp hb j (List.mem_range.mpr (by omega))
      rw [hno] at this
      cases this
def sp__law_rich : Sp := sp3 RHp RN RI (fun h g t => h.length ≤ 100 ∧ g ≤ 100 ∧ 0 ≤ t ∧ t ≤ 1000) fun h g t v _ => RichIs h g t v
theorem ok__law_rich (T : Prog K mg A F) : FnOk P w K mg base CX0 1 (A 5) (F 5) ["_law_heap_here", "_law_rings", "_law_total"] sp__law_rich := by
  have sc := sc__law_rich
  refine T.d__law_rich.ok sc__law_rich (fun vs H Q E h => ?_) (fun cdv _ outer s H vs Q E hr h => ?_)
  · obtain ⟨_, _, _, _, _, _, rfl, _⟩ := h
    rfl
  · obtain ⟨v, y, z, h, g, t, rfl, rh, rg, rt, ⟨h1, h2, h3, h4⟩, q⟩ := h
    have rt : z = .int t := rt
    subst rt
    refine ⟨_, (pss_cons (ps_if (PW.pt (pw_or (pt_cmpR op_gt (pv 2) (pe_op op_sub (pe_op op_mul pe_int (pv 1)) pe_int) (nomark _)) (pw_or1 (pt_cmpR op_lt (pv 2) pe_int (nomark _))))) (pss_one (ps_ret (pe_callB (call_max2 rfl) (by rfl) T.max (by decide +kernel) (pa_cons (pe_un un_neg pe_int) (pa_cons (pe_op op_sub (pv 2) (pv 1)) pa_nil))))) pss_nil)
      (pss_cons (ps_set (i := 3) sc.nd rfl (.inl rfl) (pe_un un_neg pe_int))
      (pss_one (ps_while PassesOwn.never (pt_val pe_bl) (pss_cons (ps_set (i := 4) sc.nd rfl (.inl rfl) (pe_op op_add (pe_op op_add (pe_op op_sub (pv 1) (pv 2)) (pv 3)) pe_int))
      (pss_cons (ps_if (PW.pt (pw_and (pt_cmpR op_gt (pv 4) pe_int (nomark _)) (pw_and1 (PW.pt (pw_or (pt_cmpR op_lt (pe_callB (k_len K rfl) (by rfl) T.len (by decide +kernel) (pa_cons (pv 0) pa_nil)) (pe_op op_add (pv 3) pe_int) (nomark _)) (pw_or1 (pt_cmpR op_lt (pe_ix (k_ixT K rfl) (pv 0) (pe_op op_add (pv 3) pe_int) (fun _ _ => rfl)) (pv 4) (nomark _)))))))) (pss_one (ps_ret (pv 3))) pss_nil)
      (pss_cons (ps_if (PW.pt (pw_and (pt_cmpR op_le (pv 4) pe_int (nomark _)) (pw_and1 (pt_cmpR op_gt (pe_op op_add (pv 3) pe_int) (pv 2) (nomark _))))) (pss_one (ps_ret (pv 3))) pss_nil)
      (pss_one (ps_set (i := 3) sc.nd rfl (.inl rfl) (pe_op op_add (pv 3) pe_int)))))))))), ?_⟩
    refine q_when (M := M0) (D := none) e00 (et_or (et_test (er_gt (er_var (R := RI) (a := t) rfl rfl) (er_sub (er_mul er_int (er_nat (er_var rfl rg) rfl) (.inl (by decide))) er_int))) fun _ => et_test (er_lt (er_var (R := RI) (a := t) rfl rfl) er_int)) (fun zz H1 e1 => ?_) fun zz H1 e1 => ?_
    · refine s_ret (M := M0) (D := none) (Ex.refl good0) (er_max (er_neg er_int) (er_sub (er_var (R := RI) (a := t) rfl rfl) (er_nat (er_var rfl (e1.mo rg)) rfl))) fun v H2 e2 p => q v H2 (e1.trans e2).toSame ⟨_, p, fun k => ?_⟩
      have hz : 2 * (g : Int) - 2 < t ∨ t < 0 := by simpa using zz
      unfold KM.richGE
      rw [if_pos hz]
      refine decide_eq_decide.mpr ?_
      split <;> omega
    · have hlow : ¬ (2 * (g : Int) - 2 < t ∨ t < 0) := by simpa using zz
      refine q_set (M := M0) (D := none) (Ex.refl good0) (er_neg er_int) fun v3 H2 e2 p3 => ?_
      have p3 : v3 = .int (-1) := p3
      subst p3
      have e12 := e1.trans e2
      refine ⟨fun m σ' H' => ∃ (j : Nat) (b : Option V), σ' = [some v, some y, some (.int t), some (.int ((j : Int) - 1)), b] ∧ (∀ i, i < j → KM.okk h g t i = true) ∧ m + j = h.length + t.toNat + 2 ∧ Ex M0 none H H', ⟨h.length + t.toNat + 2, 0, none, rfl, fun i hi => absurd hi (Nat.not_lt_zero _), rfl, e12⟩, ?_⟩
      rintro m σ' H' ⟨j, b, rfl, hall, hm, e⟩
      refine (et_B (M := M0) (D := none) er_bl) H' (Ex.refl good0) _ fun c H3 e3 ec => ?_
      subst ec
      refine ⟨fun σ5 H5 => ∃ m', m' < m ∧ ∃ (j : Nat) (b : Option V), σ5 = [some v, some y, some (.int t), some (.int ((j : Int) - 1)), b] ∧ (∀ i, i < j → KM.okk h g t i = true) ∧ m' + j = h.length + t.toNat + 2 ∧ Ex M0 none H H5, fun σ5 H5 hh => hh, ?_⟩
      have ee := e.trans e3
      have rg3 := ee.mo rg
      have rh3 := ee.mo rh
      refine q_set (M := M0) (D := none) (Ex.refl good0) (er_add (er_add (er_sub (er_nat (er_var rfl rg3) rfl) (er_var (R := RI) (a := t) rfl rfl)) (er_var (R := RI) (a := (j : Int) - 1) rfl rfl)) er_int) fun v4 H4 e4 p4 => ?_
      have p4 : v4 = .int ((g : Int) - t + j) := by
        rw [show v4 = .int _ from p4]
        congr 1
        omega
      subst p4
      have rh4 := e4.mo rh3
      have hb1 : ∀ {X : Hp}, RHp X v h → EvB M0 none (tOr (tTest (tOp (rI0 fun i j => .bl (decide (i < j))) (tCB (rLenS K) (tCons (tVar 0) tNil)) (tOp (rI0 fun i j => .int (i + j)) (tVar 3) (tC (.int 2))))) (tTest (tOp (rI0 fun i j => .bl (decide (i < j))) (tOp (rIxT K) (tVar 0) (tOp (rI0 fun i j => .int (i + j)) (tVar 3) (tC (.int 1)))) (tVar 4)))) [some v, some y, some (.int t), some (.int ((j : Int) - 1)), some (.int ((g : Int) - t + j))] X (decide ((h.length : Int) < (j : Int) - 1 + 2) || decide (KM.hgt h j < (g : Int) - t + j)) := fun rX => et_or (et_test (er_lt (er_nat (er_lenT (er_var rfl rX)) rfl) (er_add (er_var (R := RI) (a := (j : Int) - 1) rfl rfl) er_int))) fun hlen => et_test (er_lt (er_ixT (R := RI) (j := j) (a := KM.hgt h j) (er_var rfl rX) (er_add (er_var (R := RI) (a := (j : Int) - 1) rfl rfl) er_int) (by omega) (by
        have hlen := of_decide_eq_false hlen
        rw [List.getElem?_eq_getElem (by omega), KM.hgt_lt h (by omega)])) (er_var (R := RI) (a := (g : Int) - t + j) rfl rfl))
      have hge : h.length ≤ j → KM.hgt h j = 0 := fun hh => KM.hgt_ge h hh
      refine q_when (M := M0) (D := none) (Ex.refl good0) (et_and (et_test (er_gt (er_var (R := RI) (a := (g : Int) - t + j) rfl rfl) er_int)) fun _ => hb1 rh4) (fun hb H5 e5 => ?_) fun hb H5 e5 => ?_
      · refine s_ret (M := M0) (D := none) (Ex.refl good0) (er_var (R := RI) (a := (j : Int) - 1) rfl rfl) fun v H6 e6 p => q v H6 ((((ee.trans e4).trans e5).trans e6)).toSame ⟨_, p, rich_at hlow hall ?_⟩
        have hb := hb.symm
        rw [Bool.and_eq_true, Bool.or_eq_true, decide_eq_true_eq, decide_eq_true_eq, decide_eq_true_eq] at hb
        have hlt : KM.hgt h j < (g : Int) - t + j := by
          rcases hb.2 with hh | hh
          · rw [hge (by omega)]
            exact hb.1
          · exact hh
        unfold KM.okk
        rw [decide_eq_true hb.1, decide_eq_true hlt]
        rfl
      · refine q_when (M := M0) (D := none) (Ex.refl good0) (et_and (et_test (er_le (er_var (R := RI) (a := (g : Int) - t + j) rfl rfl) er_int)) fun _ => et_test (er_gt (er_add (er_var (R := RI) (a := (j : Int) - 1) rfl rfl) er_int) (er_var (R := RI) (a := t) rfl rfl))) (fun hc H6 e6 => ?_) fun hc H6 e6 => ?_
        · refine s_ret (M := M0) (D := none) (Ex.refl good0) (er_var (R := RI) (a := (j : Int) - 1) rfl rfl) fun v H7 e7 p => q v H7 ((((ee.trans e4).trans e5).trans e6).trans e7).toSame ⟨_, p, rich_at hlow hall ?_⟩
          have hc := hc.symm
          rw [Bool.and_eq_true, decide_eq_true_eq, decide_eq_true_eq] at hc
          unfold KM.okk
          rw [decide_eq_true hc.1, decide_eq_true (show t < (j : Int) by omega)]
          simp
        · have hok : KM.okk h g t j = true := by
            rw [KM.okk_iff]
            have hb := hb.symm
            have hc := hc.symm
            rw [Bool.and_eq_false_iff, Bool.or_eq_false_iff, decide_eq_false_iff_not, decide_eq_false_iff_not, decide_eq_false_iff_not] at hb
            rw [Bool.and_eq_false_iff, decide_eq_false_iff_not, decide_eq_false_iff_not] at hc
            constructor <;> intro hh <;> omega
          have hjn : j < h.length + t.toNat + 1 := by
            refine Nat.lt_of_not_le fun hh => ?_
            have h5 := KM.okk_iff.mp hok
            rw [hge (by omega)] at h5
            omega
          refine s_set (M := M0) (D := none) (Ex.refl good0) (er_add (er_var (R := RI) (a := (j : Int) - 1) rfl rfl) er_int) fun v7 H7 e7 p7 => ⟨m - 1, by omega, j + 1, some (.int ((g : Int) - t + j)), ?_, fun i hi => ?_, by omega, (((ee.trans e4).trans e5).trans e6).trans e7⟩
          · rw [show v7 = .int _ from p7]
            show [some v, some y, some (V.int t), some (V.int ((j : Int) - 1 + 1)), some (V.int ((g : Int) - t + j))] = _
            rw [show ((j : Int) - 1 + 1) = ((j + 1 : Nat) : Int) - 1 by omega]
          · by_cases hij : i = j
            · rw [hij]; exact hok
            · exact hall i (by omega)
end KX
namespace KX
open PySem PySem.Spec PyProof.Rows L2
variable {P : Program} {w : World} {K : PySem.W.Frag} {mg : Str → Option Value} {base : PySem.Heap} {A : Nat → Addr} {F : Nat → FuncData}
def clsL (ch : List KM.Rg) : A1 → Bool
  | .tup [.int _, .tupi x] => decide (x.length = ch.length) && (ch.zip x).all fun p => decide (0 ≤ p.2) && decide (p.2 < p.1.1)
  | _ => false
theorem clsL_t (ch : List KM.Rg) (d : Int) (x : List Int) : clsL ch (.tup [.int d, .tupi x]) = (decide (x.length = ch.length) && (ch.zip x).all fun p => decide (0 ≤ p.2) && decide (p.2 < p.1.1)) := rfl
def sp__law_is_class : Sp := sp2 RCh RA1 (fun ch a => Cok ch ∧ ∀ l, a ≠ .a0 (.tupi l)) fun ch a v _ => v = .bl (clsL ch a)
theorem ok__law_is_class (T : Prog K mg A F) : FnOk P w K mg base CX0 1 (A 13) (F 13) ["_law_chain_here", "_law_value"] sp__law_is_class := by
  have sc := sc__law_is_class
  refine T.d__law_is_class.ok sc__law_is_class (fun vs H Q E h => ?_) (fun cdv _ outer s H vs Q E hr h => ?_)
  · obtain ⟨_, _, _, _, rfl, _⟩ := h
    rfl
  · obtain ⟨v, y, ch, a, rfl, rc, ra, ⟨ok, nt⟩, q⟩ := h
    have h12 := ok.most
    refine ⟨_, (pss_cons (ps_if (PW.pt (pw_or (pt_not (pt_val (pe_callB (k_isi K rfl) (by rfl) T.isinstance (by decide +kernel) (pa_cons (pv 1) (pa_cons (pe_bltn (v := .ty "tuple") (by rfl) T.tuple (by decide +kernel) rfl) pa_nil))))) (pw_or (pt_cmpR op_ne (pe_callB (k_len K rfl) (by rfl) T.len (by decide +kernel) (pa_cons (pv 1) pa_nil)) pe_int (nomark _)) (pw_or (pt_val (pe_callB (k_isi K rfl) (by rfl) T.isinstance (by decide +kernel) (pa_cons (pe_ix (k_ixT K rfl) (pv 1) pe_int (fun _ _ => rfl)) (pa_cons (pe_bltn (v := .ty "bool") (by rfl) T.bool (by decide +kernel) rfl) pa_nil)))) (pw_or1 (pt_not (pt_val (pe_callB (k_isi K rfl) (by rfl) T.isinstance (by decide +kernel) (pa_cons (pe_ix (k_ixT K rfl) (pv 1) pe_int (fun _ _ => rfl)) (pa_cons (pe_bltn (v := .ty "int") (by rfl) T.int (by decide +kernel) rfl) pa_nil)))))))))) (pss_one (ps_ret pe_bl)) pss_nil)
      (pss_cons (ps_set (i := 2) sc.nd rfl (.inl rfl) (pe_ix (k_ixT K rfl) (pv 1) pe_int (fun _ _ => rfl)))
      (pss_cons (ps_if (PW.pt (pw_or (pt_not (pt_val (pe_callB (k_isi K rfl) (by rfl) T.isinstance (by decide +kernel) (pa_cons (pv 2) (pa_cons (pe_bltn (v := .ty "tuple") (by rfl) T.tuple (by decide +kernel) rfl) pa_nil))))) (pw_or1 (pt_cmpR op_ne (pe_callB (k_len K rfl) (by rfl) T.len (by decide +kernel) (pa_cons (pv 2) pa_nil)) (pe_callB (k_len K rfl) (by rfl) T.len (by decide +kernel) (pa_cons (pv 0) pa_nil)) (nomark _))))) (pss_one (ps_ret pe_bl)) pss_nil)
      (pss_cons (ps_if (pt_cmpR (k_neD K rfl hr.units) (pe_lc (own := [("_law_place", 3)]) (g := gName 3) rfl sc.nd (k_piT K rfl (pv 2)) (blkOk_by (N := N__law_is_class) (sc := defScope s__law_is_class) (by decide +kernel)) (fun _ _ _ _ _ => (pg_name (i := 3) sc.nd rfl (.inl rfl))) (fun _ _ _ _ _ => (pts_one (PW.pt (pw_or (pt_val (pe_callB (k_isi K rfl) (by rfl) T.isinstance (by decide +kernel) (pa_cons (pv 3) (pa_cons (pe_bltn (v := .ty "bool") (by rfl) T.bool (by decide +kernel) rfl) pa_nil)))) (pw_or1 (pt_not (pt_val (pe_callB (k_isi K rfl) (by rfl) T.isinstance (by decide +kernel) (pa_cons (pv 3) (pa_cons (pe_bltn (v := .ty "int") (by rfl) T.int (by decide +kernel) rfl) pa_nil)))))))))) (fun _ _ _ _ _ => (pv 3))) (pe_lst pa_nil) (nomark _)) (pss_one (ps_ret pe_bl)) pss_nil)
      (pss_one (ps_ret (pe_cmpR (k_eqD K rfl hr.units) (pe_lc (own := [("_law_ring_here", 4), ("_law_place", 3)]) (g := gTup K 2 (gCons (gName 4) (gCons (gName 3) gNil))) rfl sc.nd (k_zip K rfl (by rfl) T.zip (pa_cons (pv 0) (pa_cons (pv 2) pa_nil))) (blkOk_by (N := N__law_is_class) (sc := defScope s__law_is_class) (by decide +kernel)) (fun _ _ _ _ _ => (k_pgT K rfl rfl (pgs_cons (pg_name (i := 4) sc.nd rfl (.inl rfl)) (pgs_cons (pg_name (i := 3) sc.nd rfl (.inl rfl)) pgs_nil)))) (fun _ _ _ _ _ => (pts_one (pt_not (pt_chain op_le op_lt pe_int (pv 3) (pe_ix (k_ixT K rfl) (pv 4) pe_int (fun _ _ => rfl)))))) (fun _ _ _ _ _ => pe_int)) (pe_lst pa_nil) (nomark _)))))))), ?_⟩
    cases a with
    | a0 x =>
      have hx : x.isT = false := by
        cases x with
        | tupi l => exact absurd rfl (nt l)
        | _ => rfl
      refine q_when (M := M0) (D := none) e00 (et_or (a := true) (b := true) ((et_not (et_B (er_isT1 (er_var rfl ra)))).eq (by show (!x.isT) = true; rw [hx]; rfl)) fun z => by cases z) (fun _ H1 e1 => ?_) fun z => by cases z
      exact s_ret (M := M0) (D := none) (Ex.refl good0) er_bl fun v H2 e p => q v H2 (e1.trans e).toSame p
    | tup l =>
      have rl : RT RA0 H y l := ra
      have t0 : EvB M0 none (tNot (tB (tCB (rIsi K) (tCons (tVar 1) (tCons (tC (.ty "tuple")) tNil))))) (L2.start N__law_is_class [v, y]) H false := (et_not (et_B (er_isTT (er_var rfl rl))))
      by_cases h2 : l.length = 2
      · obtain ⟨x0, x1, rfl⟩ : ∃ x0 x1, l = [x0, x1] := by
          match l, h2 with
          | [x0, x1], _ => exact ⟨x0, x1, rfl⟩
        have t1 : EvB M0 none (tOr (tNot (tB (tCB (rIsi K) (tCons (tVar 1) (tCons (tC (.ty "tuple")) tNil))))) (tOr (tTest (tOp rNe (tCB (rLenS K) (tCons (tVar 1) tNil)) (tC (.int 2)))) (tOr (tB (tCB (rIsi K) (tCons (tOp (rIxT K) (tVar 1) (tC (.int 0))) (tCons (tC (.ty "bool")) tNil)))) (tNot (tB (tCB (rIsi K) (tCons (tOp (rIxT K) (tVar 1) (tC (.int 0))) (tCons (tC (.ty "int")) tNil)))))))) (L2.start N__law_is_class [v, y]) H (!x0.isI) :=
          (et_or t0 fun _ => et_or (et_test (er_ne (er_nat (er_lenT (er_var rfl rl)) rfl) er_int)) fun _ => et_or (et_B (er_isB (er_ixT (j := 0) (er_var rfl rl) er_int rfl rfl))) fun _ => et_not (et_B (er_isI (er_ixT (j := 0) (er_var rfl rl) er_int rfl rfl)))).eq (by cases x0 <;> rfl)
        refine q_when (M := M0) (D := none) e00 t1 (fun hb H1 e1 => ?_) fun hb H1 e1 => ?_
        · refine s_ret (M := M0) (D := none) (Ex.refl good0) er_bl fun v H2 e p => q v H2 (e1.trans e).toSame ?_
          show v = .bl (clsL ch (.tup [x0, x1]))
          cases x0 with
          | int d => cases hb
          | _ => exact p
        · have rl1 := e1.mo rl
          refine q_set (M := M0) (D := none) (Ex.refl good0) (er_ixT (R := RA0) (j := 1) (a := x1) (er_var rfl rl1) er_int rfl rfl) fun v2 H2 e2 r2 => ?_
          have e12 := e1.trans e2
          have rc2 := e12.mo rc
          cases x0 with
          | int d =>
            cases x1 with
            | tupi x =>
              have rx : RHp H2 v2 x := r2
              refine q_when (M := M0) (D := none) (Ex.refl good0) (et_or (et_not (et_B (er_isTT (er_var rfl rx)))) fun _ => et_test (er_ne (er_nat (er_lenT (er_var rfl rx)) rfl) (er_nat (er_lenT (er_var rfl rc2)) rfl))) (fun hb2 H3 e3 => ?_) fun hb2 H3 e3 => ?_
              · refine s_ret (M := M0) (D := none) (Ex.refl good0) er_bl fun v H4 e p => q v H4 ((e12.trans e3).trans e).toSame ?_
                show v = .bl (clsL ch (.tup [.int d, .tupi x]))
                have hl : ¬ x.length = ch.length := fun hl => by rw [hl] at hb2; simp at hb2
                rw [clsL_t, decide_eq_false hl]
                exact p
              · have hl : x.length = ch.length := by
                  have hb2 := hb2.symm
                  simp at hb2
                  omega
                have rx3 := e3.mo rx
                refine q_when (M := M0) (D := none) (Ex.refl good0) (et_test ((er_neE (R := RI) (el_lc (R := RI) (S := RI) (fun _ => false) id (ei_tup (er_var rfl rx3)) (by omega) fun i u p H' hx e r => tg_name (fun _ => rfl) ⟨(et_or (et_B (er_isB (a := A0.int p) (er_var (R := RA0) rfl r))) fun _ => et_not (et_B (er_isI (a := A0.int p) (er_var (R := RA0) rfl r)))).eq rfl, fun z => by cases z⟩)).eq (b := false) (by rw [List.filter_eq_nil_iff.mpr (by simp)]; rfl))) (fun z => by cases z) fun _ H4 e4 => ?_
                have rc4 := (e3.trans e4).mo rc2
                have rx4 := e4.mo rx3
                refine s_ret (M := M0) (D := none) (Ex.refl good0) (er_eqE (R := RI) (el_lc (R := RP RRg RI) (S := RI) (fun p : KM.Rg × Int => !(decide (0 ≤ p.2) && decide (p.2 < p.1.1))) (fun _ => 1) (ei_zipT (er_var rfl rc4) (er_var rfl rx4)) (by rw [List.length_zip]; omega) fun i u p H' hx e r => tg_pair r (fun _ _ => rfl) fun x y r1 r2 => ⟨et_not (et_test (er_chain er_int (er_var rfl r2) (er_fst (er_var rfl r1) er_int))), fun _ => er_int⟩)) fun v H5 e5 p => q v H5 (((e12.trans e3).trans e4).trans e5).toSame ?_
                rw [show v = _ from p]
                show V.bl _ = V.bl (clsL ch (.tup [.int d, .tupi x]))
                rw [clsL_t, decide_eq_true hl, Bool.true_and]
                congr 1
                rw [Bool.eq_iff_iff, List.isEmpty_iff, List.map_eq_nil_iff, List.filter_eq_nil_iff, List.all_eq_true]
                simp
            | _ =>
              refine q_when (M := M0) (D := none) (Ex.refl good0) (et_or (a := true) (b := true) (et_not (et_B (er_isT (er_var rfl r2)))) fun z => by cases z) (fun _ H3 e3 => ?_) fun z => by cases z
              exact s_ret (M := M0) (D := none) (Ex.refl good0) er_bl fun v H4 e p => q v H4 ((e12.trans e3).trans e).toSame p
          | _ => cases hb
      · refine q_when (M := M0) (D := none) e00 (et_or t0 fun _ => et_or (a := true) (b := true) ((et_test (er_ne (er_nat (er_lenT (er_var rfl rl)) rfl) er_int)).eq (by simp; omega)) fun z => by cases z) (fun _ H1 e1 => ?_) fun z => by cases z
        refine s_ret (M := M0) (D := none) (Ex.refl good0) er_bl fun v H2 e p => q v H2 (e1.trans e).toSame ?_
        show v = .bl (clsL ch (.tup l))
        have : clsL ch (.tup l) = false := by
          unfold clsL
          split
          · rename_i e
            cases e
            simp at h2
          · rfl
        rw [this]
        exact p
def leastL (ch : List KM.Rg) (k : Nat) (due : Int) : A1 → Bool
  | .tup [.int d, .tupi x] => clsL ch (.tup [.int d, .tupi x]) && decide (d = due) && KM.richGE (KM.heapOf ch x) ch.length due k
  | _ => false
theorem leastL_t (ch : List KM.Rg) (k : Nat) (due d : Int) (x : List Int) : leastL ch k due (.tup [.int d, .tupi x]) = (clsL ch (.tup [.int d, .tupi x]) && decide (d = due) && KM.richGE (KM.heapOf ch x) ch.length due k) := rfl
theorem clsL_false {ch : List KM.Rg} {k : Nat} {due : Int} {a : A1} (h : clsL ch a = false) : leastL ch k due a = false := by
  unfold leastL
  split
  · rw [h]; rfl
  · rfl
theorem clsL_true {ch : List KM.Rg} {a : A1} (h : clsL ch a = true) : ∃ d x, a = .tup [.int d, .tupi x] ∧ x.length = ch.length := by
  unfold clsL at h
  split at h
  · rename_i d x
    rw [Bool.and_eq_true] at h
    exact ⟨d, x, rfl, of_decide_eq_true h.1⟩
  · cases h
def sp__law_is_least : Sp := sp4 RCh RN RI RA1 (fun ch k due a => Cok5 ch ∧ 0 ≤ due ∧ due ≤ 1000 ∧ ∀ l, a ≠ .a0 (.tupi l)) fun ch k due a v _ => v = .bl (leastL ch k due a)
theorem ok__law_is_least (T : Prog K mg A F) : FnOk P w K mg base CX0 3 (A 14) (F 14) ["_law_chain_here", "_law_k", "_law_due", "_law_value"] sp__law_is_least := by
  have G__law_heap := ok__law_heap (P := P) (w := w) (base := base) T
  have G__law_is_class := ok__law_is_class (P := P) (w := w) (base := base) T
  have G__law_rich := ok__law_rich (P := P) (w := w) (base := base) T
  have sc := sc__law_is_least
  refine T.d__law_is_least.ok sc__law_is_least (fun vs H Q E h => ?_) (fun cdv _ outer s H vs Q E hr h => ?_)
  · obtain ⟨_, _, _, _, _, _, _, _, rfl, _⟩ := h
    rfl
  · obtain ⟨v, vk, vd, z, ch, k, due, a, rfl, rc, rk, rd, ra, ⟨ok5, d0, d1, nt⟩, q⟩ := h
    have ok := ok5.ok
    have h12 := ok.most
    refine ⟨_, (pss_cons (ps_if (PW.pt (pw_or (pt_not (pt_val (pe_call G__law_is_class (hr.mono (by decide)) (by rfl) T.d__law_is_class.at_ T.d__law_is_class.fn.kp T.d__law_is_class.bi .nil pass0 (pa_cons (pv 0) (pa_cons (pv 3) pa_nil))))) (pw_or1 (pt_cmpR op_ne (pe_ix (k_ixT K rfl) (pv 3) pe_int (fun _ _ => rfl)) (pv 2) (nomark _))))) (pss_one (ps_ret pe_bl)) pss_nil)
      (pss_one (ps_ret (pe_cmpR op_ge (pe_call G__law_rich (hr.mono (by decide)) (by rfl) T.d__law_rich.at_ T.d__law_rich.fn.kp T.d__law_rich.bi .nil pass0 (pa_cons (pe_call G__law_heap (hr.mono (by decide)) (by rfl) T.d__law_heap.at_ T.d__law_heap.fn.kp T.d__law_heap.bi .nil pass0 (pa_cons (pv 0) (pa_cons (pe_ix (k_ixT K rfl) (pv 3) pe_int (fun _ _ => rfl)) pa_nil))) (pa_cons (pe_callB (k_len K rfl) (by rfl) T.len (by decide +kernel) (pa_cons (pv 0) pa_nil)) (pa_cons (pv 2) pa_nil)))) (pv 1) (nomark _))))), ?_⟩
    cases hc : clsL ch a with
    | false =>
      refine q_when (M := M0) (D := none) e00 (et_or (a := !false) (b := true) (et_not (et_B (EvR.eq (ev_c2 (er_var rfl rc) (er_var rfl ra) ⟨ok, nt⟩) hc))) fun z => by cases z) (fun _ H2 e2 => ?_) fun z => by cases z
      refine s_ret (M := M0) (D := none) (Ex.refl good0) er_bl fun v H3 e3 p => q v H3 (e2.trans e3).toSame ?_
      show v = .bl (leastL ch k due a)
      rw [clsL_false hc]
      exact p
    | true =>
      obtain ⟨d, x, rfl, hx⟩ := clsL_true hc
      have rl : RT RA0 H z [.int d, .tupi x] := ra
      have i0 : ∀ {H2 : Hp}, RT RA0 H2 z [.int d, .tupi x] → EvR M0 none (tOp (rIxT K) (tVar 3) (tC (.int 0))) [some v, some vk, some vd, some z] H2 RI d := fun h => er_ixT (R := RA0) (j := 0) (a := A0.int d) (er_var rfl h) er_int rfl rfl
      refine q_when (M := M0) (D := none) e00 (et_or (et_not (et_B (EvR.eq (ev_c2 (er_var rfl rc) (er_var rfl ra) ⟨ok, nt⟩) hc))) fun _ => et_test (er_ne (i0 rl) (er_var rfl rd))) (fun zz H2 e2 => ?_) fun zz H2 e2 => ?_
      · refine s_ret (M := M0) (D := none) (Ex.refl good0) er_bl fun v H3 e3 p => q v H3 (e2.trans e3).toSame ?_
        show v = .bl (leastL ch k due (.tup [.int d, .tupi x]))
        have hd : ¬ d = due := by simpa using zz
        rw [leastL_t, decide_eq_false hd, Bool.and_false, Bool.false_and]
        exact p
      · have hd : d = due := by simpa using zz
        subst hd
        have rl := e2.mo rl
        have rc := e2.mo rc
        have rk := e2.mo rk
        have rd := e2.mo rd
        have hh := heapOf_len ch x
        refine s_ret (M := M0) (D := none) (P := fun v _ => v = .bl (KM.richGE (KM.heapOf ch x) ch.length d k)) (Ex.refl good0) (fun H3 e3 Q qq => ?_) fun v H4 e4 p => q v H4 (e2.trans e4).toSame ?_
        · refine ev_c3 (R := RHp) (S := RN) (T := RI) (a := KM.heapOf ch x) (b := ch.length) (c := d) (M := M0) (D := none) (ev_c2 (R := RCh) (S := RHp) (er_var (i := 0) rfl rc) (er_ixT (R := RA0) (j := 1) (a := A0.tupi x) (er_var (i := 3) rfl rl) er_int rfl rfl) ⟨ok, hx.symm⟩) (er_lenT (er_var (i := 0) rfl rc)) (er_var (i := 2) rfl rd) ⟨by omega, by omega, d0, d1⟩ H3 e3 _ fun u H4 e4 ⟨r, er, hr⟩ => ?_
          refine er_var (M := M0) (D := none) (i := 1) (R := RN) rfl (e3.trans e4 |>.mo rk) H4 (Ex.refl good0) _ fun u2 H5 e5 p5 => ⟨r, (k : Int), er, p5, qq _ H5 (e4.trans e5) ?_⟩
          show V.bl _ = V.bl _
          rw [hr k]
        · show v = .bl (leastL ch k d (.tup [.int d, .tupi x]))
          rw [leastL_t, hc, decide_eq_true rfl, Bool.true_and, Bool.true_and]
          exact p
end KX
namespace KX
open PySem PySem.Spec PyProof.Rows L2
open PySem.W (kas_first_eq Looks kas_mapM)
/-! ### sorted of tuples of ints of any lengths, one of them empty -/
section
variable {prog : Program} {w : World} {A : Around} {E : Value → Shared → Prop} {s : Shared}
/-- v is a tuple of these ints -/
def TupIs (h : PySem.Heap) (v : Value) (ns : List Int) : Prop := ∃ (a : Addr) (its : List Value), v = .ref a ∧ h.IsTuple a its.toArray ∧ IntsAre its ns
theorem TupIs.keeps {h h' : PySem.Heap} {v : Value} {ns : List Int} (x : TupIs h v ns) (k : ∀ b o, v = .ref b → h.get? b = some o → h'.get? b = some o) : TupIs h' v ns := by
  obtain ⟨a, its, rfl, ⟨o, ho, r⟩, hi⟩ := x
  exact ⟨a, its, rfl, ⟨o, k a o rfl ho, r⟩, hi⟩
theorem firsts_tup {k : Value → List Int} : ∀ (vs : List Value) {Q : List (Option Value) → Shared → Prop}, (∀ v ∈ vs, TupIs s.heap v (k v)) → (∀ r : List (Option Value), r.map Option.isSome = vs.map (fun v => !(k v).isEmpty) → Q r s) → wpAny (model prog w) A (vs.mapM firstOfTuple') Q E s
  | [], _, _, h => by rw [List.mapM_nil]; exact wpAny_pure (h [] rfl)
  | v :: vs, Q, hv, h => by
    obtain ⟨a, its, rfl, ⟨o, ho, hc, n, hd⟩, hi⟩ := hv v (List.mem_cons_self ..)
    have hc : o.cls = .type "tuple" := hc
    rw [List.mapM_cons]
    refine wpAny_bind ?_
    rw [kas_first_eq]
    refine wpAny_bind (Looks.here (show Looks (model prog w) s.heap (typeOf (.ref a)) o.cls from (Looks.ld ho).andThen .now) ?_)
    rw [hc, if_neg (by first | decide | simp)]
    refine wpAny_bind (listItems_at ho hd (wpAny_pure ?_))
    refine wpAny_bind (firsts_tup vs (Q := fun bs s' => wpAny (model prog w) A (pure (its.toArray[0]? :: bs)) Q E s') (fun u hu => hv u (List.mem_cons_of_mem _ hu)) fun r hr => wpAny_pure (h _ ?_))
    rw [List.map_cons, List.map_cons, hr]
    congr 1
    generalize k (Value.ref a) = kk at hi ⊢
    cases hi with
    | nil => rfl
    | cons _ _ _ => rfl
def kindT (k : Value → List Int) : List Value → SortKind
  | [] => general'
  | v :: _ => if (k v).isEmpty = true then oneType' else general'
theorem kindT_c (k : Value → List Int) (v : Value) (l : List Value) : kindT k (v :: l) = if (k v).isEmpty = true then oneType' else general' := rfl
theorem kind_tups0 {k : Value → List Int} {vs : List Value} {Q : SortKind → Shared → Prop} (h2 : 2 ≤ vs.length) (hv : ∀ v ∈ vs, TupIs s.heap v (k v)) (h0 : ∃ v ∈ vs, k v = []) (h : Q (kindT k vs) s) : wpAny (model prog w) A (keyKind' vs.toArray) Q E s := by
  rw [keyKind'_eq, List.mapM_toArray, map_eq_pure_bind]
  refine wpAny_bind (wpAny_bind (firsts_tup vs hv fun r hr => wpAny_pure ?_))
  have hall : ¬ ((r.toArray.all fun x => x.isSome) = true) := fun hc => by
    obtain ⟨v, hm, hk⟩ := h0
    rw [List.all_toArray] at hc
    have h3 : ((r.map Option.isSome).all id) = true := by rw [List.all_map]; exact hc
    rw [hr, List.all_eq_true] at h3
    have := h3 (!(k v).isEmpty) (List.mem_map.mpr ⟨v, hm, rfl⟩)
    rw [hk] at this
    cases this
  rw [if_neg hall]
  have hT : ∀ v ∈ vs, Looks (model prog w) s.heap (typeOf v) (.type "tuple") := fun v hm => by
    obtain ⟨a, its, rfl, ⟨o, ho, hc, _⟩, _⟩ := hv v hm
    have hc : o.cls = .type "tuple" := hc
    rw [← hc]
    exact (Looks.ld ho).andThen .now
  match vs, h2, r, hr, h, hT with
  | v1 :: v2 :: rest, _, r1 :: r', hr, h, hT =>
    rw [List.map_cons, List.map_cons] at hr
    have hr1 : r1.isSome = !(k v1).isEmpty := (List.cons.inj hr).1
    have hz1 : ((r1 :: r').toArray[0]?.bind id) = r1 := by simp
    rw [hz1]
    rw [kindT_c] at h
    cases hk : (k v1).isEmpty with
    | false =>
      rw [hk] at hr1 h
      rw [if_pos (by rw [hr1]; rfl)]
      exact wpAny_pure h
    | true =>
      rw [hk] at hr1 h
      rw [if_neg (by rw [hr1]; decide), oneTypeOnly'_eq, List.mapM_toArray, map_eq_pure_bind]
      refine wpAny_bind (wpAny_bind (wpAny_bind (kas_mapM (r := Value.type "tuple") _ (fun v hm Q' hq => (hT v hm).here hq) (wpAny_pure ?_))))
      have ha : ((List.map (fun _ => Value.type "tuple") (v1 :: v2 :: rest)).toArray.all fun x => x == Value.type "tuple") = true := by
        simp only [List.all_toArray, List.all_map, List.all_eq_true]
        intro _ _
        rfl
      have hz : (List.map (fun _ => Value.type "tuple") (v1 :: v2 :: rest)).toArray[0]? = some (Value.type "tuple") := by simp
      rw [hz]
      simp only [ha, if_true]
      exact wpAny_pure (wpAny_pure h)
  | [], h2, _, _, _, _ => simp at h2
  | [_], h2, _, _, _, _ => simp at h2
  | _ :: _ :: _, _, [], hr, _, _ => simp at hr
theorem tup_lt {v u : Value} {ns ms : List Int} {Q : Bool → Shared → Prop} (b : Bool) (hu : A.units < cLine) (hv : TupIs s.heap v ns) (hw : TupIs s.heap u ms) (h : Q (HT.lexLt ns ms) s) : wpAny (model prog w) A (oneLt' b v u) Q E s := by
  obtain ⟨a, its, rfl, ha, hi⟩ := hv
  obtain ⟨c, its2, rfl, hb, hj⟩ := hw
  rw [oneLt'_eq]
  cases b with
  | false =>
    simp only [Bool.false_eq_true, if_false]
    exact wpAny_bind (HT.lt_tupInts (items := its.toArray) (items2 := its2.toArray) ha hb (by simpa using hi) (by simpa using hj) hu (wpAny_truthy_bool h))
  | true =>
    simp only [if_true]
    refine wpAny_bind (wpAny_cRoomFor hu ?_)
    obtain ⟨⟨cls, dd, data, sl⟩, ho, hc, n, hd⟩ := id ha
    obtain ⟨⟨cls2, dd2, data2, sl2⟩, ho2, hc2, n2, hd2⟩ := id hb
    simp only at hc hd hc2 hd2
    subst hc hd hc2 hd2
    refine wpAny_bind (wpAny_callSpecialIfBound?_slot ⟨_, ho, rfl⟩ PySem.F.slot_tuple_lt (call_meets PySem.F.slot_tuple_lt ⟨_, ho, rfl⟩ PySem.F.entry_tuple_lt (PySem.F.args_tuple_lt_2 _ _) (HT.tuple_lt_ints a c its.toArray its2.toArray n n2 dd dd2 sl sl2 ns ms (by simpa using hi) (by simpa using hj)) ⟨ho, ho2, ?_⟩))
    exact wpAny_truthy_bool h
theorem tups_sortable {a : Addr} {vs : List Value} {k : Value → List Int} (h2 : 2 ≤ vs.length) (hu : A.units < cLine) (hv : ∀ v ∈ vs, TupIs s.heap v (k v)) (h0 : ∃ v ∈ vs, k v = []) (ha : ∀ v ∈ vs, v ≠ .ref a) : SrtO.SortableO prog w A s a vs fun v u => HT.lexLt (k v) (k u) := by
  intro h' keep
  have hv' : ∀ v ∈ vs, TupIs h' v (k v) := fun v hm => (hv v hm).keeps fun b o e g => keep b o (fun z => ha v hm (by rw [e, z])) g
  refine ⟨kindT k vs, fun Q E hq => kind_tups0 (s := { s with heap := h' }) h2 hv' h0 hq, fun p q hp hq => ?_⟩
  have key : ∀ b, wpAny (model prog w) A (oneLt' b p.1 q.1) (fun r s' => s' = { s with heap := h' } ∧ r = HT.lexLt (k p.1) (k q.1)) (fun _ _ => False) { s with heap := h' } := fun b => tup_lt (s := { s with heap := h' }) b hu (hv' p.1 hp) (hv' q.1 hq) ⟨rfl, rfl⟩
  match vs with
  | [] => exact key false
  | v1 :: _ =>
    rw [kindT_c]
    split
    · exact key true
    · exact key false
end
end KX
namespace KX
open PySem PySem.Spec PyProof.Rows L2
/-! ### set(l), l a long list of few different tuples -/
section
variable {P : Program} {w : World} {A : Around} {E : Value → Shared → Prop} {s : Shared}
/-- few differ -/
def FewKeys (ks : List (Addr × List Int)) : Prop := ∀ l : List (List Int), l.Nodup → (∀ k ∈ l, k ∈ ks.map (·.2)) → l.length < 63
theorem FewKeys.room {ks L : List (Addr × List Int)} {i : Nat} (f : FewKeys ks) (nd : (L.map (·.2)).Nodup) (g : Got ks i L) : L.length + 1 < 64 := by
  have := f _ nd fun k hk => by
    obtain ⟨p, hp, e⟩ := List.mem_map.mp hk
    exact List.mem_map.mpr ⟨p, List.mem_of_mem_take (g.sub p hp), e⟩
  rw [List.length_map] at this
  omega
theorem set_fill {I : Addr} {fp wr : List Addr} {G : Array GenState → Array GenState → Prop} {n : Nat} {Pv : Nat → Value → Prop} {St : Nat → Shared → Prop} {R : Result → Shared → Prop}
    (W : WalksS P w A.in1 I fp wr G n Pv St) (S : Addr) (hS : S ∉ fp) (ks : List (Addr × List Int)) (hn : n = ks.length) (few : FewKeys ks) (hval : ∀ i v, Pv i v → ∃ p, ks[i]? = some p ∧ v = .ref p.1)
    (hp0 : PySem.Heap) (hk : ∀ p ∈ ks, IsT P w hp0 p.2 p.1) (hS0 : hp0.get? S = none) (hw0 : ∀ b ∈ wr, hp0.get? b = none) (hu : A.in1.units < cLine) :
    ∀ (m i : Nat) (s : Shared), i + m = n → St i s → (∀ b o, hp0.get? b = some o → s.heap.get? b = some o) → (∃ L es ep t, SetTR P w s.heap S L es ep t ∧ Got ks i L) →
      (∀ s' L es ep t, Moved (S :: wr) G s s' → SetTR P w s'.heap S L es ep t → Got ks n L → (∀ b o, hp0.get? b = some o → s'.heap.get? b = some o) → R (.ok (.ret .none)) s') →
      codeAny (model P w) A (.builtin "set.update.loop" ⟨[.ref S, .ref I], []⟩) R s := by
  have nw : S ∉ wr := fun h => hS (W.sub _ h)
  have sub : ∀ b ∈ wr, b ∈ S :: wr := fun b hb => List.mem_cons_of_mem _ hb
  have moved : ∀ {s1 s2 : Shared}, Moved wr G s1 s2 → (∀ b o, hp0.get? b = some o → s1.heap.get? b = some o) → ∀ b o, hp0.get? b = some o → s2.heap.get? b = some o := fun mv kp b o e => mv.heap b o (fun hb => by
    rw [hw0 b hb] at e
    cases e) (kp b o e)
  intro m
  induction m with
  | zero =>
    intro i s him st kp ⟨L, es, ep, t, T, g⟩ hR
    obtain rfl : i = n := him
    refine codeAny_builtin F.entry_set_update_loop ?_
    rw [Around.under_plainId F.plain_set_update_loop _]
    show wpAny _ A.in1 (pyNext (.ref I) >>= _) _ _ s
    refine wpAny_bind (W.done s _ _ st fun s1 mv => wpAny_pure (hR s1 L es ep t (mv.mono sub) ?_ g (moved mv kp)))
    exact T.keep (fun o e => mv.heap S o nw e) fun p hp => isT_keep (hk p (List.mem_of_mem_take (g.sub p hp))) (moved mv kp)
  | succ m ih =>
    intro i s him st kp ⟨L, es, ep, t, T, g⟩ hR
    refine codeAny_builtin F.entry_set_update_loop ?_
    rw [Around.under_plainId F.plain_set_update_loop _]
    show wpAny _ A.in1 (pyNext (.ref I) >>= _) _ _ s
    refine wpAny_bind (W.item i s _ _ (by omega) st fun v s1 hv st1 mv => ?_)
    obtain ⟨p, hp, rfl⟩ := hval i v hv
    have kp1 := moved mv kp
    have T1 : SetTR P w s1.heap S L es ep t := T.keep (fun o e => mv.heap S o nw e) fun z hz => isT_keep (hk z (List.mem_of_mem_take (g.sub z hz))) kp1
    have hx : IsT P w s1.heap p.2 p.1 := isT_keep (hk p (List.mem_of_getElem? hp)) kp1
    show wpAny _ A.in1 (holding [Value.ref p.1] (setAdd S (.ref p.1)) >>= _) _ _ s1
    refine wpAny_bind (wpAny_holding ?_)
    unfold setAdd
    refine wpAny_holding (wpAny_bind (wpAny_pyHash_tuple hu hx ?_))
    refine add_at (s := { s1 with toks := s1.toks + (p.2.length + 1) }) T1 hx hu (few.room T.nd g) fun b h2 L2 es2 ep2 t2 same T2 c1 c2 => ?_
    have g2 : Got ks (i + 1) L2 := (Classical.em (p.2 ∈ L.map (·.2))).elim (fun c => by rw [c1 c]; exact g.same hp c) fun c => g.more hp (c2 c)
    have kp2 : ∀ b o, hp0.get? b = some o → h2.get? b = some o := fun b o e => (same.2 b fun z => by
      rw [z, hS0] at e
      cases e).trans (kp1 b o e)
    refine wpAny_pure ⟨plainId_quiet F.plain_set_update_loop _, ih (i + 1) _ (by omega) (W.frame _ s1 _ _ st1 (Nat.le_add_right _ _) fun b hb o e => (same.2 b fun h => hS (by rw [← h]; exact hb)).trans e) kp2 ⟨L2, es2, ep2, t2, T2, g2⟩ fun s3 L3 es3 ep3 t3 mv3 T3 g3 kp3 => hR s3 L3 es3 ep3 t3 (Moved.trans W.gtrans ((mv.mono sub).then_heap (Nat.le_add_right _ _) fun b o hb e => (same.2 b fun h => hb (by rw [h]; exact List.mem_cons_self)).trans e) mv3) T3 g3 kp3⟩
abbrev set0 (w : World) : Obj := { cls := .type "set", dict := none, data := .set #[] 0 (.fresh 0 0 (!w.params.followText "set-order")) }
set_option maxHeartbeats 8000000 in
theorem call_setD {l : Addr} {items : Array Value} (ks : List (Addr × List Int)) {Q : Value → Shared → Prop} (hh : A.handled = none) (hl : s.heap.IsList l items) (hit : items.toList = ks.map fun p => Value.ref p.1)
    (hk : ∀ p ∈ ks, IsT P w s.heap p.2 p.1) (few : FewKeys ks) (hu : A.units + 3 < cLine)
    (h : ∀ (h' : PySem.Heap) (tk : Nat) L es ep t, SetTR P w h' s.heap.objs.size L es ep t → Got ks ks.length L → (∀ b o, s.heap.get? b = some o → h'.get? b = some o) → Q (.ref s.heap.objs.size) { s with heap := h', toks := tk }) :
    wpAny (model P w) A (call (.type "set") [.ref l]) Q E s := by
  have hsz : items.size = ks.length := by
    rw [← Array.length_toList, hit, List.length_map]
  obtain ⟨c, tl, hmro⟩ := F.called_set.mro
  have hmade := F.called_set.made
  have hsub := F.called_set.sub
  refine wpAny_call (codeAny_of_tree ?_)
  show wpAny _ _ (callAny (.type "set") _) _ _ _
  refine wpAny_pure ⟨Code.quiet_builtin _ (by decide +kernel), codeAny_builtin F.entry_type_call ?_⟩
  rw [Around.under_plain (weight_type_call_type "set" [.ref l] []) rfl]
  have h1 := F.called_set.notType
  have h2 := F.called_set.canCreate
  have hct := F.typeCall_set_1 (.ref l)
  repeat (any_goals (first | assumption | wp_step))
  refine codeAny_mono (code_set_led1 (.ref l) (E := E) (Q₁ := fun obj s₁ => obj = .ref s.heap.objs.size ∧ s₁ = { s with heap := s.heap.push (set0 w) }) ⟨rfl, rfl⟩) fun r s₁ hr => ?_
  cases r with
  | error e => exact hr
  | ok fl =>
    cases fl with
    | ret obj =>
      obtain ⟨rfl, rfl⟩ := hr
      have hS : (s.heap.push (set0 w)).get? s.heap.objs.size = some (set0 w) := Heap.get?_push_size _ rfl
      have hT : Shared.TypeIs { s with heap := s.heap.push (set0 w) } (.ref s.heap.objs.size) "set" := ⟨_, hS, rfl⟩
      have hli := F.called_set.init.lookup
      have hbi := F.called_set.init.bind (.ref s.heap.objs.size)
      repeat (any_goals (first | assumption | wp_step))
      refine codeAny_mono (codeAny_call_builtin (R := wants (fun r s₂ => r = .none ∧ ∃ h' tk L es ep t, s₂ = { s with heap := h', toks := tk } ∧ SetTR P w h' s.heap.objs.size L es ep t ∧ Got ks ks.length L ∧ (∀ b o, s.heap.get? b = some o → h'.get? b = some o)) E) F.called_set.init.plain F.entry_set_init (check_set_init_1 hT ?_)) fun r₂ s₂ hr₂ => ?_
      · obtain ⟨⟨ocls, odict, odata, oslots⟩, hol, hcl, nl, hdl⟩ := hl
        simp only at hcl hdl
        subst hcl hdl
        have hol' : (s.heap.push (set0 w)).get? l = some { cls := .type "list", dict := odict, data := .seq items nl, slots := oslots } := Heap.get?_push_of_some _ hol
        have hsls := F.sub_list_set
        have hslf := F.sub_list_frozenset
        have hne : (Value.type "list" == Value.type "dict") = false := by decide
        have hl1 : (s.heap.push (set0 w)).IsList l items := ⟨_, hol', rfl, nl, rfl⟩
        unfold Builtin.«set.__init__» noKeywords Builtin.Frozenset.updateFrom
        generalize hPI : pyIter = PI
        wp_walk
        subst hPI
        refine wpAny_pyIter_list hl1 (wpAny_bind (wpAny_runValue ?_))
        have hlS : l < s.heap.objs.size := Heap.lt_size hol
        have hh3 : A.in1.in1.in1.handled = none := by simp [hh]
        have gone : ∀ b, s.heap.objs.size ≤ b → s.heap.get? b = none := fun b hb => Heap.get?_none_of_le hb
        have hz1 : (s.heap.push (set0 w)).objs.size = s.heap.objs.size + 1 := Heap.size_push ..
        have hneI : l ≠ (s.heap.push (set0 w)).objs.size := by
          rw [hz1]
          exact Nat.ne_of_lt (Nat.lt_succ_of_lt hlS)
        have hSf : s.heap.objs.size ∉ [(s.heap.push (set0 w)).objs.size, l] := by
          rw [hz1]
          simp only [List.mem_cons, List.not_mem_nil, or_false, not_or]
          exact ⟨Nat.ne_of_lt (Nat.lt_succ_self _), Nat.ne_of_gt hlS⟩
        have hval : ∀ (i : Nat) (v : Value), items[i]? = some v → ∃ p, ks[i]? = some p ∧ v = .ref p.1 := fun i v hv => by
          have q : items.toList[i]? = some v := by rw [Array.getElem?_toList]; exact hv
          rw [hit, List.getElem?_map] at q
          obtain ⟨p, h1, h2⟩ := Option.map_eq_some_iff.mp q
          exact ⟨p, h1, h2.symm⟩
        refine set_fill ((Walks.list hh3 _ l hneI items).toS) s.heap.objs.size hSf ks hsz few hval s.heap hk (gone _ (Nat.le_refl _)) (fun b hb => gone b (by
          rw [List.mem_singleton.mp hb, hz1]
          exact Nat.le_succ _)) hu items.size 0 _ (Nat.zero_add _) ⟨⟨_, Heap.get?_push_size _ rfl, rfl, rfl⟩, (hl1.push _)⟩ (fun b o e => Heap.get?_push_of_some _ (Heap.get?_push_of_some _ e)) ?start ?done
        case start =>
          have hget : ((s.heap.push (set0 w)).push { cls := .type "list_iterator", data := .fields #[.ref l, .int 0 0] }).get? s.heap.objs.size = some (set0 w) := Heap.get?_push_of_some _ hS
          exact ⟨[], #[], 0, _, setTR_fresh hget, Got.zero ks⟩
        case done =>
          intro s' L es ep t mv T g kp
          obtain ⟨h', g2, d', tk', os'⟩ := s'
          have eg : g2 = s.gens := mv.gens
          have ed : d' = s.drawn := mv.drawn
          have eo : os' = s.os := mv.os
          subst eg ed eo
          rw [hsz] at g
          exact wpAny_pure (wpAny_pure ⟨rfl, h', tk', L, es, ep, t, rfl, T, g, kp⟩)
      · cases r₂ with
        | error e => exact hr₂
        | ok fl₂ =>
          cases fl₂ with
          | ret r =>
            obtain ⟨rfl, h', tk, L, es, ep, t, rfl, T, g, kp⟩ := hr₂
            repeat (any_goals (first | assumption | wp_step))
            exact h _ _ _ _ _ _ T g kp
          | _ => exact hr₂.elim
    | _ => exact hr.elim
end
end KX
namespace KX
open PySem PySem.Spec PyProof.Rows L2
theorem perm_pair {α β : Type} {F : β → α → Prop} {xs ys : List β} (hp : ys.Perm xs) : ∀ {l : List α}, Paired F xs l → ∃ l', l'.Perm l ∧ Paired F ys l' := by
  induction hp with
  | nil => intro l h; exact ⟨l, List.Perm.refl _, h⟩
  | cons x _ ih =>
    intro l h
    cases h with
    | cons r t =>
      obtain ⟨l', h1, h2⟩ := ih t
      exact ⟨_ :: l', h1.cons _, .cons r h2⟩
  | swap x y l0 =>
    intro l h
    cases h with
    | cons r t =>
      cases t with
      | cons r2 t2 => exact ⟨_ :: _ :: _, List.Perm.swap _ _ _, .cons r2 (.cons r t2)⟩
  | trans _ _ ih1 ih2 =>
    intro l h
    obtain ⟨l1, h1, h2⟩ := ih2 h
    obtain ⟨l2, h3, h4⟩ := ih1 h2
    exact ⟨l2, h3.trans h1, h4⟩
theorem pair_map {α β : Type} (f : α → β) : ∀ l : List α, Paired (fun b a => b = f a) (l.map f) l
  | [] => .nil
  | _ :: l => .cons rfl (pair_map f l)
theorem map_pair {α β : Type} {f : α → β} {xs : List β} {l : List α} (h : Paired (fun b a => b = f a) xs l) : xs = l.map f := by
  induction h with
  | nil => rfl
  | cons r t ih => rw [r, ih]; rfl
section
variable {X : Cx}
abbrev rSetD (K : PySem.W.Frag) (P : Program) (w : World) : List V → Hp → VK → Prop := fun xs H Q => ∃ (l : Addr) (ks : List (Addr × List Int)), xs = [V.ref l] ∧ SqL K H l (ks.map fun p => V.ref p.1) ∧ (∀ p ∈ ks, SqT K H p.1 (p.2.map V.int)) ∧ FewKeys ks ∧
  ∀ a L, H a = none → (∀ p ∈ L, p ∈ ks) → (∀ p ∈ ks, p.2 ∈ L.map (·.2)) → Q (.ref a) (upd H a (SetTO P w a L))
theorem cr_setD (K : PySem.W.Frag) (hK : X.K = K) (hc : X.calm = true) (hu : X.A.units + 64 < cLine) : CallR X (.type "set") (rSetD K X.prog X.w) := by
  subst hK
  intro pins s σ H xs us Q I r h
  obtain ⟨l, ks, rfl, hl, hk, hf, q⟩ := h
  obtain ⟨u, rfl, rx⟩ := r.one
  cases rx
  obtain ⟨its, rv, pl, hz⟩ := I.list hl
  refine call_setD (P := X.prog) (w := X.w) ks (I.ok.hd hc) pl.isList (by simpa using refs_of_vals rv) (fun p hp => I.isT (hk p hp)) hf (by omega) fun h' tk L es ep t T g k => ?_
  exact ⟨.ref s.heap.objs.size, upd H s.heap.objs.size (SetTO X.prog X.w s.heap.objs.size L), I.laid (t' := tk) k (Nat.le_refl _) (setTO_new T.t0), rfl, q _ L (I.hok.fresh (Nat.le_refl _)) (fun p hp => List.mem_of_mem_take (g.sub p hp)) fun p hp => g.all p (by rw [List.take_length]; exact hp)⟩
abbrev rSortE (K : PySem.W.Frag) (P : Program) (w : World) : List V → Hp → VK → Prop := fun vs H Q => ∃ (a : Addr) (L : List (Addr × List Int)), vs = [V.ref a] ∧ H a = some (SetTO P w a L) ∧ (∀ p ∈ L, SqT K H p.1 (p.2.map V.int)) ∧ (∃ p ∈ L, p.2 = []) ∧
  ∀ (L' : List (Addr × List Int)) (p : Addr), L'.Perm L → L'.length < 64 → H p = none → Q (.ref p) (upd H p (.lst (L'.map fun q => V.ref q.1)))
def kOf (L : List (Addr × List Int)) (v : Value) : List Int := match v with
  | .ref a => ((L.find? fun p => decide (p.1 = a)).map (·.2)).getD []
  | _ => []
theorem cr_sortE (K : PySem.W.Frag) (hK : X.K = K) (hc : X.calm = true) (hu : X.A.units + 64 < cLine) : CallR X (.builtin "sorted") (rSortE K X.prog X.w) := by
  subst hK
  intro pins s σ H vs us Q I r h
  obtain ⟨a, L, rfl, ha, hk, h0, q⟩ := h
  have R0 : SetT0 X.prog X.w s.heap a L := (I.hok a _ ha).1
  obtain ⟨es, ep, t, R⟩ := R0.full fun p hp => I.isT (hk p hp)
  obtain ⟨u, rfl, rx⟩ := r.one
  cases rx
  obtain ⟨o, ho, hex, hd⟩ := R.ob
  have hsz := R.size
  have hfew := R.few
  refine Calls.call_function_entry kind_sorted plain_sorted entry_sorted (args_sorted1 _) ?_
  unfold Builtin.«sorted»
  refine wpAny_bind (m := checkCount "sorted" 1 1 _) (wpAny_pure ?_)
  refine wpAny_bind (collect_set (A := X.A.in1) (I.ok.hd hc) ⟨o, ho, hex.1, hd⟩ R.fits (by unfold scanBound; omega) R.tab.ris R.led fun s1 vs k1 hz g1 o1 pm => ?_)
  have hes : es.toList.map (·.2) = L.map fun q => Value.ref q.1 := by
    rw [R.rows]
    unfold rowsOf
    rw [List.map_map]
    rfl
  rw [hes] at pm
  have hvl : vs.length < 64 := by rw [pm.length_eq, List.length_map]; exact hfew
  have hzl : vs.length ≤ sizeLine := Nat.le_trans (Nat.le_of_lt hvl) (by decide)
  refine wpAny_bind (wpAny_newList ?_ hzl)
  have hoL : (s1.heap.push (seqObj "list" vs.toArray 0)).get? s1.heap.objs.size = some (seqObj "list" vs.toArray 0) := Heap.get?_push_size _ rfl
  have hkey : ∀ q ∈ L, kOf L (.ref q.1) = q.2 := fun q hq => by
    rw [show kOf L (.ref q.1) = ((L.find? fun p => decide (p.1 = q.1)).map (·.2)).getD [] from rfl]
    cases hf : L.find? fun p => decide (p.1 = q.1) with
    | none => exact absurd (List.find?_eq_none.mp hf q hq) (by simp)
    | some p =>
      have e1 : p.1 = q.1 := by simpa using List.find?_some hf
      have a1 := R.tup p (List.mem_of_find?_eq_some hf)
      have a2 := R.tup q hq
      rw [e1] at a1
      exact a1.inj a2
  have htup : ∀ v ∈ vs, ∃ q ∈ L, v = Value.ref q.1 := fun v hv => by
    obtain ⟨q, hq, e⟩ := List.mem_map.mp (pm.mem_iff.mp hv)
    exact ⟨q, hq, e.symm⟩
  have hTup : ∀ v ∈ vs, TupIs (s1.heap.push (seqObj "list" vs.toArray 0)) v (kOf L v) := fun v hv => by
    obtain ⟨q, hq, rfl⟩ := htup v hv
    rw [hkey q hq]
    obtain ⟨o2, items, n, ho2, hc2, hd2, hi2⟩ := R.tup q hq
    exact ⟨q.1, items.toList, rfl, ⟨o2, Heap.get?_push_of_some _ (k1 _ _ ho2), hc2, n, by simpa using hd2⟩, by simpa using ints_of_items hi2⟩
  have hnl : ∀ v ∈ vs, v ≠ .ref s1.heap.objs.size := fun v hv e => by
    obtain ⟨q, hq, rfl⟩ := htup v hv
    obtain ⟨o2, items, n, ho2, _⟩ := R.tup q hq
    have := Heap.lt_size (k1 _ _ ho2)
    injection e with e
    rw [e] at this
    exact Nat.lt_irrefl _ this
  have hemp : ∃ v ∈ vs, kOf L v = [] := by
    obtain ⟨q, hq, e⟩ := h0
    exact ⟨.ref q.1, pm.mem_iff.mpr (List.mem_map.mpr ⟨q, hq, rfl⟩), by rw [hkey q hq, e]⟩
  refine wpAny_bind (wpAny_holding (wpAny_call_entry slot_list_sort ⟨_, hoL, rfl⟩ entry_list_sort (SrtO.list_sort_ord (s := { s1 with heap := s1.heap.push (seqObj "list" vs.toArray 0) }) (ltv := fun v u => HT.lexLt (kOf L v) (kOf L u)) (NtL.swo_lexL (kOf L)) hoL hzl (fun h2 => tups_sortable (s := { s1 with heap := s1.heap.push (seqObj "list" vs.toArray 0) }) h2 (by show X.A.units + 2 < cLine; omega) hTup hemp hnl) fun out hs hb => ⟨_, rfl, ?_⟩) (args_list_sort _)))
  obtain ⟨c, hcat⟩ := sortedHeap_at (vs := vs) (out := out.toArray) hoL
  obtain ⟨L', pL, hL'⟩ := perm_pair (hb.perm.trans pm) (pair_map (fun q : Addr × List Int => Value.ref q.1) L)
  have eo := map_pair hL'
  have hlen : (L'.map fun q => V.ref q.1).length ≤ sizeLine := by rw [List.length_map, pL.length_eq]; exact Nat.le_trans (Nat.le_of_lt hfew) (by decide)
  have keep : ∀ b u, s.heap.get? b = some u → (sortedHeap (s1.heap.push (seqObj "list" vs.toArray 0)) s1.heap.objs.size vs out.toArray).get? b = some u := fun b u e => by
    have q := k1 b u e
    have hlt := Heap.lt_size q
    rw [sortedHeap_old (Nat.ne_of_lt hlt) (by rw [size_push']; exact Nat.lt_succ_of_lt hlt)]
    exact Heap.get?_push_of_some _ q
  have hn : H s1.heap.objs.size = none := I.hok.fresh hz
  have hv : Vals (L'.map fun q => V.ref q.1) out := by rw [eo]; exact vals_of_refs L'
  have J : L2.Inv X pins σ (upd H s1.heap.objs.size (.lst (L'.map fun q => V.ref q.1))) { s with heap := sortedHeap (s1.heap.push (seqObj "list" vs.toArray 0)) s1.heap.objs.size vs out.toArray, gens := s1.gens, drawn := s1.drawn, toks := s1.toks } :=
    I.call (ch := []) (Un.laid keep hz hn) (I.hok.laid keep hz ⟨hlen, out, c, hv, hcat⟩) (by rw [g1]; exact I.bare) (fun _ z => nomatch z)
  refine wpAny_pure ⟨_, rfl, .ref s1.heap.objs.size, _, ?_, rfl, q L' _ pL (by rw [pL.length_eq]; exact hfew) hn⟩
  have e9 : ({ s1 with heap := sortedHeap (s1.heap.push (seqObj "list" vs.toArray 0)) s1.heap.objs.size vs out.toArray } : Shared) = { s with heap := sortedHeap (s1.heap.push (seqObj "list" vs.toArray 0)) s1.heap.objs.size vs out.toArray, gens := s1.gens, drawn := s1.drawn, toks := s1.toks } := by
    cases s1
    cases s
    cases o1
    rfl
  rw [← e9] at J
  exact J
end
end KX
namespace KX
open PySem PySem.Spec PyProof.Rows L2
/-! ### few heaps -/
def growC (h : List Int) (m q : Nat) : List Int := KM.growP h fun d => decide (d % (m : Int) = (q : Int))
theorem growP_congr {h : List Int} {p p' : Int → Bool} (e : ∀ d, p d = p' d) : KM.growP h p = KM.growP h p' := by rw [show p = p' from funext e]
theorem grow_C {r : KM.Rg} (ok : KM.RgOk r) (h3 : r.1 ≤ 3) {x : Int} (h0 : 0 ≤ x) (h1 : x < r.1) (h : List Int) : ∃ q : Nat, q < r.1.toNat ∧ KM.grow h r x = growC h r.1.toNat q := by
  obtain ⟨n, s⟩ := r
  have a1 : 2 ≤ n := ok.two
  have a2 : 1 ≤ s := ok.s1
  have a3 : s < n := ok.s2
  have h3 : n ≤ 3 := h3
  have h1 : x < n := h1
  have hc : (n = 2 ∧ s = 1) ∨ (n = 3 ∧ s = 1) ∨ (n = 3 ∧ s = 2) := by omega
  rcases hc with ⟨rfl, rfl⟩ | ⟨rfl, rfl⟩ | ⟨rfl, rfl⟩
  · refine ⟨x.toNat, by show x.toNat < 2; omega, growP_congr fun d => ?_⟩
    show decide ((d * 1 - x) % 2 = 0) = decide (d % (2 : Int) = (x.toNat : Int))
    exact decide_eq_decide.mpr (by omega)
  · refine ⟨x.toNat, by show x.toNat < 3; omega, growP_congr fun d => ?_⟩
    show decide ((d * 1 - x) % 3 = 0) = decide (d % (3 : Int) = (x.toNat : Int))
    exact decide_eq_decide.mpr (by omega)
  · refine ⟨(2 * x % 3).toNat, by show (2 * x % 3).toNat < 3; omega, growP_congr fun d => ?_⟩
    show decide ((d * 2 - x) % 3 = 0) = decide (d % (3 : Int) = ((2 * x % 3).toNat : Int))
    exact decide_eq_decide.mpr (by omega)
def addNew (x : List Int) (acc : List (List Int)) : List (List Int) := if acc.contains x = true then acc else x :: acc
def dedup (l : List (List Int)) : List (List Int) := l.foldr addNew []
theorem mem_dedup {x : List Int} : ∀ {l : List (List Int)}, x ∈ l → x ∈ dedup l
  | y :: l, h => by
    show x ∈ addNew y (dedup l)
    unfold addNew
    rcases List.mem_cons.mp h with e | m
    · split
      · rename_i hc
        rw [e]
        simpa using hc
      · rw [e]
        exact List.mem_cons_self ..
    · split
      · exact mem_dedup m
      · exact List.mem_cons_of_mem _ (mem_dedup m)
def stepR (m : Nat) (S : List (List Int)) : List (List Int) := dedup (S.flatMap fun h => (List.range m).map fun q => growC h m q)
def reachF (S : List (List Int)) (ms : List Nat) : List (List Int) := ms.foldl (fun S m => stepR m S) S
theorem mem_reachF : ∀ {ch : List KM.Rg} {x h : List Int} {S : List (List Int)}, (∀ r ∈ ch, KM.RgOk r ∧ r.1 ≤ 3) → KM.Tup ch x → h ∈ S → KM.heapFrom h ch x ∈ reachF S (ch.map fun r => r.1.toNat)
  | [], [], h, S, _, _, hm => by unfold KM.heapFrom; exact hm
  | r :: ch, p :: x, h, S, ok, t, hm => by
    obtain ⟨q, hq, e⟩ := grow_C (ok r (List.mem_cons_self ..)).1 (ok r (List.mem_cons_self ..)).2 t.1.1 t.1.2 h
    unfold KM.heapFrom
    rw [e]
    refine mem_reachF (S := stepR r.1.toNat S) (fun s hs => ok s (List.mem_cons_of_mem _ hs)) t.2 ?_
    exact mem_dedup (List.mem_flatMap.mpr ⟨h, hm, List.mem_map.mpr ⟨q, List.mem_range.mpr hq, rfl⟩⟩)
  | [], _ :: _, _, _, _, t, _ => t.elim
  | _ :: _, [], _, _, _, t, _ => t.elim
def seqs : Nat → List (List Nat)
  | 0 => [[]]
  | n + 1 => (seqs n).flatMap fun s => [2 :: s, 3 :: s]
theorem mem_seqs : ∀ {ms : List Nat}, (∀ m ∈ ms, m = 2 ∨ m = 3) → ms ∈ seqs ms.length
  | [], _ => List.mem_singleton.mpr rfl
  | m :: ms, h => by
    have := mem_seqs (ms := ms) fun k hk => h k (List.mem_cons_of_mem _ hk)
    refine List.mem_flatMap.mpr ⟨ms, this, ?_⟩
    rcases h m (List.mem_cons_self ..) with e | e <;> rw [e] <;> simp
theorem seq4 : ((seqs 4).all fun s => decide ((reachF [[]] s).length < 63)) = true := by decide +kernel
theorem seq5 : ((seqs 5).all fun s => decide ((reachF [[]] s).length < 63)) = true := by decide +kernel
/-- lists whose entry at c is at most n - c -/
def stair : Nat → List (List Int)
  | 0 => [[]]
  | n + 1 => [] :: (List.range (n + 1)).flatMap fun (x : Nat) => (stair n).map fun p => ((x : Int) + 1) :: p
theorem mem_stair : ∀ {n : Nat} {p : List Int}, p.length ≤ n → (∀ (c : Nat) v, p[c]? = some v → 1 ≤ v ∧ v + c ≤ n) → p ∈ stair n
  | 0, p, h, _ => by
    rw [List.eq_nil_of_length_eq_zero (Nat.le_zero.mp h)]
    exact List.mem_singleton.mpr rfl
  | n + 1, [], _, _ => List.mem_cons_self ..
  | n + 1, x :: p, h, hx => by
    have h1 := hx 0 x rfl
    refine List.mem_cons_of_mem _ (List.mem_flatMap.mpr ⟨x.toNat - 1, List.mem_range.mpr (by omega), List.mem_map.mpr ⟨p, mem_stair (Nat.le_of_succ_le_succ h) fun c v hv => ?_, ?_⟩⟩)
    · have := hx (c + 1) v hv
      omega
    · congr 1
      omega
/-- the heaps of a chain are few -/
theorem few_heaps {ch : List KM.Rg} (h1 : 1 ≤ ch.length) (h5 : ch.length ≤ 5) (ok : ∀ r ∈ ch, KM.RgOk r) (h3 : 3 < ch.length → ∀ r ∈ ch, r.1 ≤ 3) : ∃ S : List (List Int), S.length < 63 ∧ ∀ x, KM.Tup ch x → KM.heapOf ch x ∈ S := by
  by_cases hg : ch.length ≤ 3
  · refine ⟨stair 3, by decide +kernel, fun x hx => ?_⟩
    have H := KM.heapOf_heap ch x
    refine mem_stair (Nat.le_trans (heapOf_len ch x) hg) fun c v hv => ?_
    obtain ⟨hl, e⟩ := List.getElem?_eq_some_iff.mp hv
    have e2 : KM.hgt (KM.heapOf ch x) c = v := by rw [KM.hgt_lt _ hl, e]
    have a := H.one hl
    have b := KM.hook (ch := ch) (x := x) c
    omega
  · have h3 := h3 (by omega)
    refine ⟨reachF [[]] (ch.map fun r => r.1.toNat), ?_, fun x hx => mem_reachF (fun r hr => ⟨ok r hr, h3 r hr⟩) hx (List.mem_singleton.mpr rfl)⟩
    have hm : (ch.map fun r => r.1.toNat) ∈ seqs ch.length := by
      have := mem_seqs (ms := ch.map fun r => r.1.toNat) fun m hm => by
        obtain ⟨r, hr, rfl⟩ := List.mem_map.mp hm
        have a1 := (ok r hr).two
        have a2 := h3 r hr
        have : r.1 = 2 ∨ r.1 = 3 := by omega
        rcases this with e | e <;> rw [e] <;> simp
      rw [List.length_map] at this
      exact this
    have hg : ch.length = 4 ∨ ch.length = 5 := by omega
    rcases hg with e | e
    · rw [e] at hm
      exact of_decide_eq_true (List.all_eq_true.mp seq4 _ hm)
    · rw [e] at hm
      exact of_decide_eq_true (List.all_eq_true.mp seq5 _ hm)
theorem grow_one {r : KM.Rg} (ok : KM.RgOk r) : KM.grow [] r 1 = [] := by
  have h1 := ok.two
  have hl : KM.lets r 1 0 = false := by
    unfold KM.lets
    refine decide_eq_false fun h => ?_
    have e : (0 * r.2 - 1) % r.1 = r.1 - 1 := by
      rw [show (0 * r.2 - 1 : Int) = (r.1 - 1) + r.1 * (-1) by rw [Int.zero_mul]; omega, Int.add_mul_emod_self_left]
      exact Int.emod_eq_of_lt (by omega) (by omega)
    omega
  have hr : KM.rise [] (KM.lets r 1) 0 = 0 := by
    unfold KM.rise
    rw [KM.hgt_nil, if_neg (by
      show ¬ (KM.canAdd [] 0 && KM.lets r 1 (0 - 0)) = true
      rw [show ((0 : Int) - 0) = 0 from rfl, hl, Bool.and_false]
      decide)]
    rfl
  show KM.ofF (0 + 1) (KM.rise [] (KM.lets r 1)) = []
  rw [KM.ofF_succ, hr]
  rfl
theorem ones_heap : ∀ {ch : List KM.Rg}, (∀ r ∈ ch, KM.RgOk r) → KM.Tup ch (List.replicate ch.length 1) ∧ KM.heapFrom [] ch (List.replicate ch.length 1) = []
  | [], _ => ⟨True.intro, rfl⟩
  | r :: ch, ok => by
    have h := ok r (List.mem_cons_self ..)
    obtain ⟨i1, i2⟩ := ones_heap (ch := ch) fun s hs => ok s (List.mem_cons_of_mem _ hs)
    refine ⟨⟨⟨by decide, by have := h.two; omega⟩, i1⟩, ?_⟩
    rw [List.length_cons, List.replicate_succ]
    unfold KM.heapFrom
    rw [grow_one h]
    exact i2
/-! ### sorted(set(l)) -/
theorem adr_of {K : PySem.W.Frag} {H : Hp} : ∀ {xs : List V} {hs : List (List Int)}, Paired (RHp H) xs hs → ∃ ks : List (Addr × List Int), xs = ks.map (fun p => V.ref p.1) ∧ ks.map (·.2) = hs ∧ ∀ p ∈ ks, SqT K H p.1 (p.2.map V.int)
  | _, _, .nil => ⟨[], rfl, rfl, fun _ h => nomatch h⟩
  | _, _, .cons ⟨a, ys, e, h1, h2⟩ t => by
    obtain ⟨ks, e1, e2, e3⟩ := adr_of (K := K) t
    refine ⟨(a, _) :: ks, by rw [List.map_cons, e, e1], by rw [List.map_cons, e2], fun p hp => ?_⟩
    rcases List.mem_cons.mp hp with z | z
    · rw [z]
      show SqT K H a (List.map V.int _)
      rw [← paired_ints h2]
      exact SqT.of h1
    · exact e3 p z
theorem lat_adr {K : PySem.W.Frag} {H : Hp} (hH : ∀ a xs, SqT K H a xs → H a = some (.tup xs)) : ∀ {L : List (Addr × List Int)}, (∀ p ∈ L, SqT K H p.1 (p.2.map V.int)) → Paired (RHp H) (L.map fun p => V.ref p.1) (L.map (·.2))
  | [], _ => .nil
  | p :: L, h => .cons ⟨p.1, _, rfl, hH _ _ (h p (List.mem_cons_self ..)), ints_paired _⟩ (lat_adr hH fun q hq => h q (List.mem_cons_of_mem _ hq))
theorem lat_adr2 {H : Hp} : ∀ {L : List (Addr × List Int)}, (∀ p ∈ L, H p.1 = some (.tup (p.2.map V.int))) → Paired (RHp H) (L.map fun p => V.ref p.1) (L.map (·.2))
  | [], _ => .nil
  | p :: L, h => .cons ⟨p.1, _, rfl, h p (List.mem_cons_self ..), ints_paired _⟩ (lat_adr2 fun q hq => h q (List.mem_cons_of_mem _ hq))
theorem adr_of2 {H : Hp} : ∀ {xs : List V} {hs : List (List Int)}, Paired (RHp H) xs hs → ∃ ks : List (Addr × List Int), xs = ks.map (fun p => V.ref p.1) ∧ ks.map (·.2) = hs ∧ ∀ p ∈ ks, H p.1 = some (.tup (p.2.map V.int))
  | _, _, .nil => ⟨[], rfl, rfl, fun _ h => nomatch h⟩
  | _, _, .cons ⟨a, ys, e, h1, h2⟩ t => by
    obtain ⟨ks, e1, e2, e3⟩ := adr_of2 t
    refine ⟨(a, _) :: ks, by rw [List.map_cons, e, e1], by rw [List.map_cons, e2], fun p hp => ?_⟩
    rcases List.mem_cons.mp hp with z | z
    · rw [z]
      show H a = some (.tup (List.map V.int _))
      rw [← paired_ints h2]
      exact h1
    · exact e3 p z
theorem en_sortSet {K : PySem.W.Frag} {P : Program} {w : World} {M : Ads} {σ : L2.St} {H : Hp} {te : TE} {l : List (List Int)} (ha : EvL M none te σ H RHp l) (few : ∃ S : List (List Int), S.length < 63 ∧ ∀ h ∈ l, h ∈ S) (h0 : [] ∈ l) :
    EvN M none (tCB (rSortE K P w) (tCons (tCB (rSetD K P w) (tCons te tNil)) tNil)) σ H fun p H' => ∃ hs : List (List Int), LAt H' p RHp hs ∧ hs.length < 64 ∧ ∀ h, h ∈ hs ↔ h ∈ l := fun H1 e Q q =>
  ha H1 e _ fun p H2 hp e2 ⟨xs, h1, h2⟩ => by
    obtain ⟨ks, ex, ek, et⟩ := adr_of2 h2
    refine ⟨p, ks, rfl, by rw [← ex]; exact SqL.of h1, fun z hz => SqT.of (et z hz), fun m nd hm => ?_, fun a L hna hsub hall => ?_⟩
    · obtain ⟨S, s1, s2⟩ := few
      refine Nat.lt_of_le_of_lt (List.Nodup.length_le_of_subset nd fun k hk => s2 k ?_) s1
      have := hm k hk
      rw [ek] at this
      exact this
    · have e3 := e2.new (o := SetTO P w a L) hna
      have et3 : ∀ z ∈ L, (upd H2 a (SetTO P w a L)) z.1 = some (.tup (z.2.map V.int)) := fun z hz => (same_new hna) _ _ (et z (hsub z hz))
      refine ⟨a, L, rfl, upd_same, fun z hz => SqT.of (et3 z hz), ?_, fun L' p2 pm h64 hp2 => ?_⟩
      · rw [← ek] at h0
        obtain ⟨z, hz, ez⟩ := List.mem_map.mp h0
        have := hall z hz
        rw [ez] at this
        obtain ⟨z2, hz2, ez2⟩ := List.mem_map.mp this
        exact ⟨z2, hz2, ez2⟩
      · have e4 := e3.new (o := .lst (L'.map fun q => V.ref q.1)) hp2
        refine q p2 _ (e3.there p2 hp2) e4 ⟨L'.map (·.2), ⟨_, upd_same, lat_adr2 fun z hz => (same_new hp2) _ _ (et3 z (pm.mem_iff.mp hz))⟩, by rw [List.length_map]; exact h64, fun h => ?_⟩
        rw [(pm.map (·.2)).mem_iff, ← ek]
        constructor
        · intro hm
          obtain ⟨z, hz, rfl⟩ := List.mem_map.mp hm
          exact List.mem_map.mpr ⟨z, hsub z hz, rfl⟩
        · intro hm
          obtain ⟨z, hz, rfl⟩ := List.mem_map.mp hm
          exact hall z hz
end KX
namespace KX
open PySem PySem.Spec PyProof.Rows L2
variable {P : Program} {w : World} {K : PySem.W.Frag} {mg : Str → Option Value} {base : PySem.Heap} {A : Nat → Addr} {F : Nat → FuncData}
/-- a chain of the law -/
structure CokL (ch : List KM.Rg) : Prop where
  ok5 : Cok5 ch
  five : ∀ r ∈ ch, r.1 ≤ 5
  three : 3 < ch.length → ∀ r ∈ ch, r.1 ≤ 3
theorem best_none {ch : List KM.Rg} {k : Nat} (h : ∀ t : Nat, t < ch.length + k + 1 → ∀ x, KM.Tup ch x → ¬ KM.richGE (KM.heapOf ch x) ch.length (t : Nat) k = true) : KM.best ch k = (ch.length : Int) + k := by
  unfold KM.best
  have : (List.range (ch.length + k + 1)).find? (fun t => (KM.allT ch).any fun x => KM.richGE (KM.heapOf ch x) ch.length (t : Nat) k) = none := List.find?_eq_none.mpr fun t ht hany => by
    obtain ⟨x, hx, hr⟩ := List.any_eq_true.mp hany
    exact h t (List.mem_range.mp ht) x (KM.mem_allT.mp hx) hr
  rw [this]
def sp__law_best : Sp := sp3 RCh RN (RLs RHp) (fun ch k ts => CokL ch ∧ k ≤ 40 ∧ ts = KM.allT ch) fun ch k _ v _ => v = .int (KM.best ch k)
theorem ok__law_best (T : Prog K mg A F) : FnOk P w K mg base CX0 3 (A 6) (F 6) ["_law_chain_here", "_law_k", "_law_tuples"] sp__law_best := by
  have G__law_heap := ok__law_heap (P := P) (w := w) (base := base) T
  have G__law_rich := ok__law_rich (P := P) (w := w) (base := base) T
  have sc := sc__law_best
  refine T.d__law_best.ok sc__law_best (fun vs H Q E h => ?_) (fun cdv _ outer s H vs Q E hr h => ?_)
  · obtain ⟨_, _, _, _, _, _, rfl, _⟩ := h
    rfl
  · obtain ⟨v, y, z, ch, k, ts, rfl, rc, rk, ⟨tp, rfl, lt⟩, ⟨okl, hk40, rfl⟩, q⟩ := h
    have ok := okl.ok5.ok
    have h5 := okl.ok5.five
    have h12 := ok.most
    have hts : (KM.allT ch).length ≤ 5 ^ ch.length := allT_len ch.length ch rfl okl.five
    have hts5 : 5 ^ ch.length ≤ 5 ^ 5 := Nat.pow_le_pow_right (by omega) h5
    refine ⟨_, (pss_cons (ps_asg (pe_tup (pa_cons (pe_callB (cr_sortE K rfl rfl hr.units) (by rfl) T.sorted (by decide +kernel) (pa_cons (pe_callTy (cr_setD K rfl rfl hr.units) (by rfl) T.set (by decide +kernel) (pa_cons (pe_lc (own := [("_law_x", 7)]) (g := gName 7) (tt := tYes) rfl sc.nd (k_piL K rfl (pv 2)) (blkOk_by (N := N__law_best) (sc := defScope s__law_best) (by decide +kernel)) (fun _ _ _ _ _ => (pg_name (i := 7) sc.nd rfl (.inl rfl))) (fun _ _ _ _ _ => pts_nil) (fun _ _ _ _ _ => (pe_call G__law_heap (hr.mono (by decide)) (by rfl) T.d__law_heap.at_ T.d__law_heap.fn.kp T.d__law_heap.bi .nil pass0 (pa_cons (pv 0) (pa_cons (pv 7) pa_nil))))) pa_nil)) pa_nil)) (pa_cons (pe_callB (k_len K rfl) (by rfl) T.len (by decide +kernel) (pa_cons (pv 0) pa_nil)) pa_nil))) (k_pgT K rfl rfl (pgs_cons (pg_name (i := 3) sc.nd rfl (.inl rfl)) (pgs_cons (pg_name (i := 4) sc.nd rfl (.inr rfl)) pgs_nil))))
      (pss_cons (ps_for PassesOwn.never rfl (pi_range2 rfl T.range (pa_cons pe_int (pa_cons (pe_op op_add (pe_op op_add (pv 4) (pv 1)) pe_int) pa_nil))) (pg_name (i := 5) sc.nd rfl (.inr rfl)) (pss_one (ps_if (pt_cmpR (k_neD K rfl hr.units) (pe_lc (own := [("_law_heap_here", 6)]) (g := gName 6) rfl sc.nd (k_piL K rfl (pv 3)) (blkOk_by (N := N__law_best) (sc := defScope s__law_best) (by decide +kernel)) (fun _ _ _ _ _ => (pg_name (i := 6) sc.nd rfl (.inl rfl))) (fun _ _ _ _ _ => (pts_one (pt_cmpR op_ge (pe_call G__law_rich (hr.mono (by decide)) (by rfl) T.d__law_rich.at_ T.d__law_rich.fn.kp T.d__law_rich.bi .nil pass0 (pa_cons (pv 6) (pa_cons (pv 4) (pa_cons (pv 5) pa_nil)))) (pv 1) (nomark _)))) (fun _ _ _ _ _ => (pv 6))) (pe_lst pa_nil) (nomark _)) (pss_one (ps_ret (pv 5))) pss_nil)))
      (pss_one (ps_ret (pe_op op_add (pv 4) (pv 1)))))), ?_⟩
    refine q_asg2 (Pa := fun x z Hx => ∃ hp hs, x = V.ref hp ∧ z = V.int (ch.length : Int) ∧ LAt Hx hp RHp hs ∧ hs.length < 64 ∧ ∀ h, h ∈ hs ↔ h ∈ (KM.allT ch).map (KM.heapOf ch)) (fun Hx e2 Q q2 => ?_) fun x z H3 tp' e3 ⟨hp, hs, ex, ez, lh, h64, hmem⟩ htp => ?_
    · refine en_sortSet (K := K) (P := P) (w := w) (M := M0) (l := (KM.allT ch).map (KM.heapOf ch)) (el_map (R := RHp) (S := RHp) (KM.heapOf ch) (ei_lst (ev_var rfl) lt (fun z => z) (fun z => nomatch z)) (by omega) fun i u x H' hx e rx => tg_name (fun _ => rfl) (ev_c2 (er_var rfl (e.mo rc)) (er_var rfl rx) ⟨ok, (KM.mem_allT.mp (List.mem_of_getElem? hx)).len⟩)) ?_ ?_ Hx e2 _ fun hp H3 hhp e3 ⟨hs, lh, h64, hmem⟩ => er_lenT (K := K) (M := M0) (D := none) (er_var (i := 0) rfl ((e2.trans e3).mo rc)) H3 (Ex.refl good0) _ fun z H4 e4 pz => q2 [.ref hp, z] H4 (e3.trans e4) ⟨_, _, rfl, hp, hs, rfl, pz, e4.lat (fun z => z) (fun z => nomatch z) lh, h64, hmem⟩
      · obtain ⟨S, s1, s2⟩ := few_heaps ok.one h5 ok.rg okl.three
        refine ⟨S, s1, fun h hh => ?_⟩
        obtain ⟨x, hx, rfl⟩ := List.mem_map.mp hh
        exact s2 x (KM.mem_allT.mp hx)
      · obtain ⟨o1, o2⟩ := ones_heap ok.rg
        exact List.mem_map.mpr ⟨_, KM.mem_allT.mpr o1, o2⟩
    · subst ex ez
      have e4 : Ex M0 none H (upd H3 tp' (.tup [V.ref hp, V.int (ch.length : Int)])) := e3.new htp
      have lh4 : LAt (upd H3 tp' (.tup [V.ref hp, V.int (ch.length : Int)])) hp RHp hs := ((Ex.refl (good0 (H := H3))).new htp).lat (fun z => z) (fun z => nomatch z) lh
      generalize upd H3 tp' (.tup [V.ref hp, V.int (ch.length : Int)]) = HA at e4 lh4 ⊢
      have hheap : ∀ h ∈ hs, h.length ≤ 100 := fun h hh => by
        obtain ⟨x, _, rfl⟩ := List.mem_map.mp ((hmem h).mp hh)
        have := heapOf_len ch x
        omega
      have hany : ∀ t : Int, (hs.filter fun h => KM.richGE h ch.length t k) = [] ↔ ∀ x, KM.Tup ch x → ¬ KM.richGE (KM.heapOf ch x) ch.length t k = true := fun t => by
        rw [List.filter_eq_nil_iff]
        constructor
        · intro hh x hx
          exact hh _ ((hmem _).mpr (List.mem_map.mpr ⟨x, KM.mem_allT.mpr hx, rfl⟩))
        · intro hh h hm
          obtain ⟨x, hx, rfl⟩ := List.mem_map.mp ((hmem h).mp hm)
          exact hh x (KM.mem_allT.mp hx)
      have hhl : hs.length < 100000 := by omega
      refine q_for (M := M0) (D := none) (R := RI) (xs := (List.range (((ch.length : Int) + (k : Int) + 1) - 0).toNat).map fun (i : Nat) => (0 : Int) + (i : Int)) (Ex.refl good0) (ei_rng2 er_int (er_add (er_add (er_var (R := RI) (a := (ch.length : Int)) rfl rfl) (er_nat (er_var rfl (e4.mo rk)) rfl)) er_int) (by omega)) (fun i σ' H' => (∃ a b c, σ' = [some v, some y, some (.ref tp), some (.ref hp), some (.int (ch.length : Int)), a, b, c]) ∧ ∀ t : Nat, t < i → ∀ x, KM.Tup ch x → ¬ KM.richGE (KM.heapOf ch x) ch.length (t : Nat) k = true) ⟨⟨_, _, _, rfl⟩, fun t ht => absurd ht (Nat.not_lt_zero _)⟩ (fun i σ' H' H'' h e => h) ?_ ?_
      · rintro i u c σ' H' hx e r ⟨⟨a, b, cc, rfl⟩, hno⟩ N hN
        rw [List.getElem?_map] at hx
        obtain ⟨i', hi', er⟩ := Option.map_eq_some_iff.mp hx
        have hil := (List.getElem?_eq_some_iff.mp hi').1
        rw [List.length_range] at hil
        rw [List.getElem?_range hil] at hi'
        cases hi'
        have ec : c = (i : Int) := by omega
        subst ec
        refine g_name ?_
        have lh5 := e.lat (fun z => z) (fun z => nomatch z) lh4
        have e5 := e4.trans e
        refine s_when (M := M0) (D := none) (Ex.refl good0) (et_test (er_neE (R := RHp) (el_lc (R := RHp) (S := RHp) (fun h => KM.richGE h ch.length (i : Int) k) id (ei_lst (ev_var rfl) lh5 (fun z => z) (fun z => nomatch z)) hhl fun j u h Hx hxh ex rh => tg_name (fun _ => rfl) ⟨et_test (b := KM.richGE h ch.length (i : Int) k) (fun H6 e6 Q6 q6 => ?_), fun _ => er_var rfl rh⟩))) (fun hb H6 e6 => ?_) fun hb H6 e6 => hN _ H6 e6 ⟨⟨_, _, _, rfl⟩, fun t ht x tx => ?_⟩
        · refine ev_c3 (R := RHp) (S := RN) (T := RI) (a := h) (b := ch.length) (c := (i : Int)) (M := M0) (D := none) (er_var (i := 6) rfl rh) (er_var (i := 4) (R := RN) rfl rfl) (er_var (i := 5) (R := RI) rfl (ex.mo r)) ⟨hheap h (List.mem_of_getElem? hxh), by omega, by omega, by omega⟩ H6 e6 _ fun u7 H7 e7 ⟨rr, er7, hr7⟩ => ?_
          refine er_var (M := M0) (D := none) (i := 1) (R := RN) rfl (((e5.trans ex).trans e6).trans e7 |>.mo rk) H7 (Ex.refl good0) _ fun u8 H8 e8 p8 => ⟨rr, (k : Int), er7, p8, q6 _ H8 (e7.trans e8) ?_⟩
          show V.bl _ = V.bl _
          rw [hr7 k]
        · have hne : (hs.filter fun h => KM.richGE h ch.length (i : Int) k) ≠ [] := fun he => by
            rw [List.map_id, he] at hb
            cases hb
          have hex : ∃ x, KM.Tup ch x ∧ KM.richGE (KM.heapOf ch x) ch.length (i : Nat) k = true := Classical.byContradiction fun hc => hne ((hany i).mpr fun x tx hr => hc ⟨x, tx, hr⟩)
          refine s_ret (M := M0) (D := none) (Ex.refl good0) (er_var rfl (e6.mo r)) fun v H7 e7 p => q v H7 ((e5.trans e6).trans e7).toSame ?_
          show v = .int (KM.best ch k)
          rw [KM.best_some (by omega) hex hno]
          exact p
        · by_cases hti : t < i
          · exact hno t hti x tx
          · have : t = i := by omega
            subst this
            refine (hany t).mp ?_ x tx
            rw [List.map_id] at hb
            cases hh : hs.filter fun h => KM.richGE h ch.length (t : Int) k with
            | nil => rfl
            | cons a l => rw [hh] at hb; cases hb
      · rintro σ' H' e ⟨⟨a, b, cc, rfl⟩, hno⟩
        rw [List.length_map, List.length_range] at hno
        refine s_ret (M := M0) (D := none) (Ex.refl good0) (er_add (er_var (R := RI) (a := (ch.length : Int)) rfl rfl) (er_nat (er_var rfl ((e4.trans e).mo rk)) rfl)) fun v H7 e7 p => q v H7 ((e4.trans e).trans e7).toSame ?_
        show v = .int (KM.best ch k)
        rw [best_none fun t ht => hno t (by omega)]
        exact p
end KX
namespace KX
open PySem PySem.Spec PyProof.Rows L2
/-! ### values of which only the kind is told -/
def IsA0 (v : V) (H : Hp) : Prop := ∃ a : A0, RA0 H v a
def OkV (v : V) (H : Hp) : Prop := ∃ a : A1, RA1 H v a ∧ ∀ l, a ≠ .a0 (.tupi l)
def IsX (n : Nat) (v : V) (H : Hp) : Prop := ∃ l : List Int, RHp H v l ∧ l.length ≤ n
instance : MoP IsA0 := ⟨fun k ⟨a, h⟩ => ⟨a, Mo.mono k h⟩⟩
instance : MoP OkV := ⟨fun k ⟨a, h, n⟩ => ⟨a, Mo.mono k h, n⟩⟩
instance {n : Nat} : MoP (IsX n) := ⟨fun k ⟨l, h, n⟩ => ⟨l, Mo.mono k h, n⟩⟩
section
variable {K : PySem.W.Frag} {M : Ads} {D : Option Addr} {σ : L2.St} {H H0 Hb H' : Hp} {ta tb tc td te : TE} {α β γ : Type} {R : Rel α} {S : Rel β} {B : Ends} {n m : Nat} {tr : TA}
theorem IsX.a0 {v : V} {H : Hp} (h : IsX n v H) : IsA0 v H := h.elim fun l p => ⟨.tupi l, p.1⟩
theorem a0_int {i : Int} (h : EvR M D te σ H RI i) : Ev M D te σ H IsA0 := h.imp fun v _ p => ⟨.int i, p⟩
theorem ea0_nil : EvA M D tNil σ H fun vs H' => vs.length ≤ 100 ∧ ∀ v ∈ vs, IsA0 v H' := ea_nil.imp fun vs _ e => by rw [e]; exact ⟨by decide, fun _ h => nomatch h⟩
theorem ea0_cons {P : V → Hp → Prop} [MoP P] (h : Ev M D te σ H P) (hp : ∀ v H', P v H' → IsA0 v H') (hr : EvA M D tr σ H fun vs H' => vs.length ≤ n ∧ ∀ v ∈ vs, IsA0 v H') : EvA M D (tCons te tr) σ H fun vs H' => vs.length ≤ n + 1 ∧ ∀ v ∈ vs, IsA0 v H' :=
  (ea_cons h hr).imp fun vs H' ⟨v, r, e, p, l, a⟩ => by
    rw [e]
    refine ⟨Nat.succ_le_succ l, fun u hu => ?_⟩
    rcases List.mem_cons.mp hu with z | z
    · rw [z]; exact hp _ _ p
    · exact a u z
theorem a0_paired {H : Hp} : ∀ {vs : List V}, (∀ v ∈ vs, IsA0 v H) → ∃ l : List A0, Paired (RA0 H) vs l
  | [], _ => ⟨[], .nil⟩
  | v :: vs, h => by
    obtain ⟨a, ha⟩ := h v (List.mem_cons_self ..)
    obtain ⟨l, hl⟩ := a0_paired fun u hu => h u (List.mem_cons_of_mem _ hu)
    exact ⟨a :: l, .cons ha hl⟩
/-- a tuple of such values -/
theorem ok_tup (h : EvA M D tr σ H fun vs H' => vs.length ≤ n ∧ ∀ v ∈ vs, IsA0 v H') (hn : n ≤ 1000) : Ev M D (tTup tr) σ H OkV :=
  ev_tup h (fun vs _ p => by have := p.1; omega) fun vs H1 a H2 p k hh => by
    obtain ⟨l, hl⟩ := a0_paired p.2
    exact ⟨.tup l, ⟨a, vs, rfl, hh, paired_mono (fun _ _ w => Mo.mono k w) hl⟩, fun _ z => nomatch z⟩
theorem ok_lst (h : EvA M D tr σ H fun vs H' => vs.length ≤ n ∧ ∀ v ∈ vs, IsA0 v H') (hn : n ≤ 1000) : Ev M D (tLst tr) σ H OkV := fun H1 e Q q =>
  h H1 e _ fun vs H2 e2 p => ⟨sz_of (by have := p.1; omega), fun a ha => q _ _ (e2.new ha) ⟨.a0 .lst, ⟨a, vs, rfl, upd_same⟩, fun _ z => nomatch z⟩⟩
theorem ok_dct : Ev M D tDNewK σ H OkV := fun H1 e Q q p hp => q _ _ ((Ex.refl e.good.m0).new hp) ⟨.a0 .dct, ⟨p, [], rfl, upd_same⟩, fun _ z => nomatch z⟩
theorem a0_list (ha : Ev M D te σ H (IsX n)) : Ev M D (tCB (rLstOf K) (tCons te tNil)) σ H IsA0 := fun H1 e Q q =>
  ha H1 e _ fun x H2 e2 ⟨l, ⟨c, xs, e1, h, p⟩, _⟩ => ⟨c, xs, by rw [e1], .inr (SqT.of h), fun d hd => q _ _ (e2.new hd) ⟨.lst, d, xs, rfl, upd_same⟩⟩
theorem a0_str {i : Int} (ha : EvR M D te σ H RI i) (hi : i.natAbs < 2 ^ 64) : Ev M D (tCB (fun xs H Q => ∃ i, xs = [.int i] ∧ i.natAbs.log2 < 1920 ∧ Q (.str (toString i)) H) (tCons te tNil)) σ H IsA0 := fun H1 e Q q =>
  ha H1 e _ fun x H2 e2 px => ⟨i, by rw [show x = .int i from px], by
    have : i.natAbs.log2 < 65 := by
      exact Nat.lt_of_lt_of_le (PySem.Flt.log2_lt_of (by decide : 0 < 64) hi) (by decide)
    omega, q _ H2 e2 ⟨.str, _, rfl⟩⟩
theorem x_cat (ha : Ev M D ta σ H (IsX n)) (hb : Ev M D tb σ H (IsX m)) (hz : n + m ≤ 1000) : Ev M D (tOp (rCatA K) ta tb) σ H (IsX (n + m)) := fun H1 e Q q =>
  ha H1 e _ fun x H2 e2 ⟨l, hl, h1⟩ => hb H2 (e.then e2) _ fun y H3 e3 ⟨l2, hl2, h2⟩ => by
    have hl3 := e3.mo hl
    obtain ⟨a, xs, e4, h3, p1⟩ := hl3
    obtain ⟨b, ys, e5, h4, p2⟩ := hl2
    have e23 := e2.trans e3
    refine ⟨a, b, xs, ys, e4, e5, SqT.of h3, SqT.of h4, sz_of (by rw [Paired.length p1, Paired.length p2]; omega), fun _ => q _ H3 e23 ⟨l2, ⟨b, ys, rfl, h4, p2⟩, by omega⟩, fun _ _ => q _ H3 e23 ⟨l, ⟨a, xs, rfl, h3, p1⟩, by omega⟩, fun _ _ p hp => ?_⟩
    have ex := (Ex.refl e3.good).new (o := .tup (xs ++ ys)) hp
    exact q _ _ (e23.trans ex) ⟨l ++ l2, ⟨p, xs ++ ys, rfl, upd_same, paired_app p1 p2⟩, by rw [List.length_append]; omega⟩
theorem paired_cut {F : V → α → Prop} : ∀ {xs : List V} {l : List α} (i j : Nat), Paired F xs l → Paired F ((xs.drop i).take j) ((l.drop i).take j)
  | _, _, i, j, .nil => by simp; exact .nil
  | _, _, i + 1, j, .cons _ t => by simpa using paired_cut i j t
  | _, _, 0, 0, .cons _ _ => by simp; exact .nil
  | _, _, 0, j + 1, .cons r t => by
    have := paired_cut 0 j t
    simp only [List.drop_zero] at this
    simp only [List.drop_zero, List.take_succ_cons]
    exact .cons r this
/-- a slice -/
theorem x_sl {tl th : TO} {Pl Ph : Prop} (ha : Ev M D te σ H (IsX n)) (hl : ∀ H1, Ex M D H H1 → ∀ Q : Option Int → Hp → Prop, (∀ o H2, Ex M0 D H1 H2 → Q o H2) → tl σ H1 Q) (hh : ∀ H1, Ex M D H H1 → ∀ Q : Option Int → Hp → Prop, (∀ o H2, Ex M0 D H1 H2 → Q o H2) → th σ H1 Q) : Ev M D (tSl (rSlA K) te tl th) σ H (IsX n) := fun H1 e Q q =>
  ha H1 e _ fun x H2 e2 ⟨l, hlx, h1⟩ => hl H2 (e.then e2) _ fun lo H3 e3 => hh H3 ((e.then e2).then e3) _ fun hi H4 e4 => by
    obtain ⟨a, xs, e5, h3, p1⟩ := (e3.trans e4).mo hlx
    have e24 := (e2.trans e3).trans e4
    refine ⟨a, xs, e5, SqT.of h3, fun _ => q _ H4 e24 ⟨l, ⟨a, xs, rfl, h3, p1⟩, h1⟩, fun _ p hp => ?_⟩
    have ex := (Ex.refl e4.good).new (o := .tup (cutV xs lo hi)) hp
    refine q _ _ (e24.trans ex) ⟨_, ⟨p, _, rfl, upd_same, paired_cut _ _ p1⟩, ?_⟩
    refine Nat.le_trans ?_ h1
    rw [List.length_take, List.length_drop]
    omega
theorem sl_no : ∀ H1, Ex M D H H1 → ∀ Q : Option Int → Hp → Prop, (∀ o H2, Ex M0 D H1 H2 → Q o H2) → tNoPart σ H1 Q := fun H1 e Q q => q _ H1 (Ex.refl e.good.m0)
theorem sl_at {i : Int} (h : EvR M D te σ H RI i) : ∀ H1, Ex M D H H1 → ∀ Q : Option Int → Hp → Prop, (∀ o H2, Ex M0 D H1 H2 → Q o H2) → tPart te σ H1 Q := fun H1 e Q q => h H1 e _ fun v H2 e2 pv => ⟨i, pv, q _ H2 e2⟩
theorem sl_P {p : Int → Prop} (h : EvP M D te σ H p) : ∀ H1, Ex M D H H1 → ∀ Q : Option Int → Hp → Prop, (∀ o H2, Ex M0 D H1 H2 → Q o H2) → tPart te σ H1 Q := fun H1 e Q q => h H1 e _ fun v H2 e2 ⟨i, pv, _⟩ => ⟨i, pv, q _ H2 e2⟩
/-- lists of such values -/
theorem eaV_nil : EvA M D tNil σ H fun vs H' => vs.length = 0 ∧ ∀ v ∈ vs, OkV v H' := ea_nil.imp fun vs _ e => by rw [e]; exact ⟨rfl, fun _ h => nomatch h⟩
theorem eaV_cons (h : Ev M D te σ H OkV) (hr : EvA M D tr σ H fun vs H' => vs.length = n ∧ ∀ v ∈ vs, OkV v H') : EvA M D (tCons te tr) σ H fun vs H' => vs.length = n + 1 ∧ ∀ v ∈ vs, OkV v H' :=
  (ea_cons h hr).imp fun vs H' ⟨v, r, e, p, l, a⟩ => by
    rw [e]
    refine ⟨by rw [List.length_cons, l], fun u hu => ?_⟩
    rcases List.mem_cons.mp hu with z | z
    · rw [z]; exact p
    · exact a u z
theorem enV (h : EvA M D tr σ H fun vs H' => vs.length = n ∧ ∀ v ∈ vs, OkV v H') (hn : n ≤ 100) : EvN M D (tLst tr) σ H fun p H' => ∃ xs, H' p = some (.lst xs) ∧ xs.length = n ∧ ∀ v ∈ xs, OkV v H' :=
  en_lst h (fun vs _ p => by have := p.1; omega) fun vs H1 a H2 p k hh => ⟨vs, hh, p.1, fun v hv => MoP.mono k (p.2 v hv)⟩
theorem okV_mo {v : V} (e : Ex M D H H') (h : OkV v H) : OkV v H' := MoP.mono e.sta h
end
end KX
namespace KX
open PySem PySem.Spec PyProof.Rows L2
variable {P : Program} {w : World} {K : PySem.W.Frag} {mg : Str → Option Value} {base : PySem.Heap} {A : Nat → Addr} {F : Nat → FuncData}
theorem ints_a0 {H : Hp} : ∀ l : List Int, Paired (RA0 H) (l.map V.int) (l.map A0.int)
  | [] => .nil
  | _ :: l => .cons rfl (ints_a0 l)
theorem rd_ne {H : Hp} {d p : Addr} (hd : DiceAt H d) (h : H p = none) : d ≠ p := fun e => by
  obtain ⟨_, _, _, hh⟩ := hd
  rw [e, h] at hh
  cases hh
def sp__law_spoilt : Sp := spd2 RCh (RP RI RHp) (fun ch p => (∀ r ∈ ch, Rok r) ∧ 1 ≤ ch.length ∧ ch.length ≤ 12 ∧ p.2.length = ch.length ∧ 0 ≤ p.1 ∧ p.1 ≤ 1000) fun _ _ v H' => OkV v H'
theorem ok__law_spoilt (T : Prog K mg A F) : FnOk P w K mg base CX0 3 (A 15) (F 15) ["_law_dice_here", "_law_chain_here", "_law_told"] sp__law_spoilt := by
  have G__law_one_of := ok__law_one_of (P := P) (w := w) (base := base) T
  have G__law_roll := ok__law_roll (P := P) (w := w) (base := base) T
  have sc := sc__law_spoilt
  refine T.d__law_spoilt.ok sc__law_spoilt (fun vs H Q E h => ?_) (fun cdv _ outer s H vs Q E hr h => ?_)
  · obtain ⟨_, _, _, _, _, rfl, _⟩ := h
    rfl
  · obtain ⟨d, v, y, ch, ⟨t, x⟩, rfl, hd, rc, rp, ⟨ok, h1, h2, h3, h4, h5⟩, q⟩ := h
    have g := goodD hd
    have e0 : Ex M0 (some d) H H := Ex.refl g
    have h3 : x.length = ch.length := h3
    have h4 : 0 ≤ t := h4
    have h5 : t ≤ 1000 := h5
    refine ⟨_, (pss_cons (ps_asg (pv 2) (k_pgT K rfl rfl (pgs_cons (pg_name (i := 3) sc.nd rfl (.inl rfl)) (pgs_cons (pg_name (i := 4) sc.nd rfl (.inl rfl)) pgs_nil))))
      (pss_cons (ps_set (i := 5) sc.nd rfl (.inl rfl) (pe_call G__law_roll (hr.mono (by decide)) (by rfl) T.d__law_roll.at_ T.d__law_roll.fn.kp T.d__law_roll.bi .nil pass0 (pa_cons (pv 0) (pa_cons (pe_callB (k_len K rfl) (by rfl) T.len (by decide +kernel) (pa_cons (pv 4) pa_nil)) pa_nil))))
      (pss_cons (ps_set (i := 6) sc.nd rfl (.inl rfl) (pe_op (k_cat K rfl) (pe_op (k_cat K rfl) (pe_slice (k_slT K rfl) (pv 4) po_none (po_some (pv 5))) (pe_tup (pa_cons (pe_call G__law_roll (hr.mono (by decide)) (by rfl) T.d__law_roll.at_ T.d__law_roll.fn.kp T.d__law_roll.bi .nil pass0 (pa_cons (pv 0) (pa_cons (pe_ix (k_ixT K rfl) (pe_ix (k_ixT K rfl) (pv 1) (pv 5) (fun _ _ => rfl)) pe_int (fun _ _ => rfl)) pa_nil))) pa_nil))) (pe_slice (k_slT K rfl) (pv 4) (po_some (pe_op op_add (pv 5) pe_int)) po_none)))
      (pss_cons (ps_set (i := 7) sc.nd rfl (.inl rfl) (pe_lst (pa_cons (pe_tup (pa_cons (pe_op op_add (pv 3) pe_int) (pa_cons (pv 4) pa_nil))) (pa_cons (pe_tup (pa_cons (pe_op op_sub (pv 3) pe_int) (pa_cons (pv 4) pa_nil))) (pa_cons (pe_tup (pa_cons (pv 3) (pa_cons (pv 6) pa_nil))) (pa_cons (pe_tup (pa_cons (pv 3) (pa_cons (pv 6) pa_nil))) (pa_cons (pe_lst (pa_cons (pv 3) (pa_cons (pv 4) pa_nil))) (pa_cons (pe_tup (pa_cons (pv 3) (pa_cons (pe_callTy (k_lstOf K rfl) (by rfl) T.list (by decide +kernel) (pa_cons (pv 4) pa_nil)) pa_nil))) (pa_cons (pe_tup (pa_cons (pv 3) pa_nil)) (pa_cons pe_non (pa_cons (pv 3) (pa_cons (pv 4) pa_nil))))))))))))
      (pss_one (ps_ret (pe_call G__law_one_of (hr.mono (by decide)) (by rfl) T.d__law_one_of.at_ T.d__law_one_of.fn.kp T.d__law_one_of.bi .nil pass0 (pa_cons (pv 0) (pa_cons (pe_op (op_cat) (pv 7) (pe_lst (pa_cons (pe_tup (pa_cons (pv 3) (pa_cons (pe_op (k_cat K rfl) (pv 4) (pe_tup (pa_cons pe_int pa_nil))) pa_nil))) (pa_cons (pe_tup (pa_cons (pv 3) (pa_cons (pe_slice (k_slT K rfl) (pv 4) (po_some pe_int) po_none) pa_nil))) (pa_cons (pe_tup (pa_cons pe_bl (pa_cons (pv 4) pa_nil))) (pa_cons (pe_tup (pa_cons (pv 3) (pa_cons (pv 4) (pa_cons pe_int pa_nil)))) (pa_cons (pe_tup (pa_cons (pe_callTy call_str_int (by rfl) T.str (by decide +kernel) (pa_cons (pv 3) pa_nil)) (pa_cons (pv 4) pa_nil))) (pa_cons pe_dnewK pa_nil)))))))) pa_nil))))))))), ?_⟩
    refine q_pair (M := M0) (D := some d) e0 (er_var rfl rp) fun vt vx H1 e1 rt rx => ?_
    have rt : vt = .int t := rt
    subst rt
    have rx : RHp H1 vx x := rx
    refine q_set (M := M0) (D := some d) (Ex.refl e1.good) (ev_d1 (d := d) (ev_var rfl) (er_nat (er_lenT (er_var rfl rx)) rfl) ⟨by omega, by omega⟩) fun va H2 e2 ⟨r, er, hr⟩ => ?_
    subst er
    have hrl : r < ch.length := by omega
    obtain ⟨rg, hrg⟩ : ∃ rg, ch[r]? = some rg := ⟨_, List.getElem?_eq_getElem hrl⟩
    have hok := ok rg (List.mem_of_getElem? hrg)
    have hok2 := hok.ok.two
    have hok6 := hok.le
    have rc2 := (e1.trans e2).mo rc
    have rx2 := e2.mo rx
    have hx2 : IsX 12 vx H2 := ⟨x, rx2, by omega⟩
    have exv : ∀ {σ : L2.St} {H : Hp} {i : Nat}, σ[i]? = some (some vx) → IsX 12 vx H → Ev M0 (some d) (tVar i) σ H (IsX 12) := fun hs hx => (fun H3 e3 Q qq => ⟨vx, hs, qq vx H3 (Ex.refl e3.good.m0) (MoP.mono e3.sta hx)⟩)
    refine q_set (M := M0) (D := some d) (P := IsX 25) (Ex.refl e2.good) (x_cat (n := 13) (m := 12) (x_cat (n := 12) (m := 1) (x_sl (Pl := True) (Ph := True) (exv rfl hx2) sl_no (sl_at (er_var (R := RI) (a := (r : Int)) rfl rfl))) (ev_tup (Pa := fun vs _ => ∃ i : Int, vs = [.int i]) ((ea_one (ev_d1 (d := d) (ev_var rfl) (er_fst (er_ixT (R := RRg) (j := r) (a := rg) (er_var rfl rc2) (er_var (R := RI) (a := (r : Int)) rfl rfl) rfl hrg) er_int) ⟨by omega, by omega⟩)).imp fun vs H' ⟨v1, e1, i, ei, _⟩ => ⟨(i : Int), by rw [e1, ei]⟩) (fun vs _ ⟨i, e⟩ => by rw [e]; show 1 ≤ 100000; decide) fun vs Ha a Hb ⟨i, e⟩ k hh => ⟨[i], ⟨a, [.int i], rfl, by rw [hh, e], .cons rfl .nil⟩, Nat.le_refl _⟩) (by decide)) (x_sl (Pl := True) (Ph := True) (exv rfl hx2) (sl_at (er_add (er_var (R := RI) (a := (r : Int)) rfl rfl) er_int)) sl_no) (by decide)) fun vo H3 e3 hvo => ?_
    have hx3 := (MoP.mono e3.sta hx2 : IsX 12 vx H3)
    have eo : ∀ {σ : L2.St} {H : Hp} {i : Nat}, σ[i]? = some (some vo) → IsX 25 vo H → Ev M0 (some d) (tVar i) σ H (IsX 25) := fun hs hx => (fun H3 e3 Q qq => ⟨vo, hs, qq vo H3 (Ex.refl e3.good.m0) (MoP.mono e3.sta hx)⟩)
    have okx : ∀ {σ : L2.St} {H : Hp} {i : Nat}, σ[i]? = some (some vx) → IsX 12 vx H → Ev M0 (some d) (tVar i) σ H OkV := fun hs hx => (exv hs hx).imp fun u H' ⟨l, ⟨a, xs, e1, e2, e3⟩, _⟩ => ⟨.tup (l.map A0.int), ⟨a, xs, e1, e2, by
      rw [paired_ints e3]
      exact ints_a0 l⟩, fun _ z => nomatch z⟩
    have pr : ∀ {σ : L2.St} {H : Hp} {ta tb : TE}, Ev M0 (some d) ta σ H IsA0 → Ev M0 (some d) tb σ H IsA0 → Ev M0 (some d) (tTup (tCons ta (tCons tb tNil))) σ H OkV := fun a b => ok_tup (n := 102) (ea0_cons a (fun _ _ p => p) (ea0_cons b (fun _ _ p => p) ea0_nil)) (by decide)
    have tot : ∀ {σ : L2.St} {H : Hp} {i : Nat}, σ[i]? = some (some (.int t)) → EvR M0 (some d) (tVar i) σ H RI t := fun hs => er_var (R := RI) hs rfl
    refine q_new (M := M0) (D := some d) (Ex.refl e3.good) (enV (n := 10) (eaV_cons (pr (a0_int (er_add (tot rfl) er_int)) ((exv rfl hx3).imp fun _ _ p => p.a0)) (eaV_cons (pr (a0_int (er_sub (tot rfl) er_int)) ((exv rfl hx3).imp fun _ _ p => p.a0)) (eaV_cons (pr (a0_int (tot rfl)) ((eo rfl hvo).imp fun _ _ p => p.a0)) (eaV_cons (pr (a0_int (tot rfl)) ((eo rfl hvo).imp fun _ _ p => p.a0)) (eaV_cons (ok_lst (n := 102) (ea0_cons (a0_int (tot rfl)) (fun _ _ p => p) (ea0_cons ((exv rfl hx3).imp fun _ _ p => p.a0) (fun _ _ p => p) ea0_nil)) (by decide)) (eaV_cons (pr (a0_int (tot rfl)) (a0_list (exv rfl hx3))) (eaV_cons (ok_tup (n := 101) (ea0_cons (a0_int (tot rfl)) (fun _ _ p => p) ea0_nil) (by decide)) (eaV_cons (ev_c.imp fun v _ p => ⟨.a0 .non, p, fun _ z => nomatch z⟩) (eaV_cons ((tot rfl).imp fun v _ p => ⟨.a0 (.int t), p, fun _ z => nomatch z⟩) (eaV_cons (okx rfl hx3) eaV_nil)))))))))) (by decide)) fun f H4 hf e4 ⟨xs, hxs, hxl, hxo⟩ => ?_
    have hx4 := (MoP.mono e4.sta hx3 : IsX 12 vx H4)
    have hdf : d ≠ f := rd_ne (e3.good.dice d rfl) hf
    refine s_ret (M := M0) (D := some d) (P := OkV) (Ex.refl e4.good) ?_ fun v H5 e5 p => q v H5 ((((e1.trans e2).trans e3).trans e4).trans e5) p
    intro H5 e5 Q qq
    have hx5 := (MoP.mono e5.sta hx4 : IsX 12 vx H5)
    refine ⟨_, rfl, _, rfl, ?_⟩
    refine (enV (M := M0) (D := some d) (n := 6) (σ := [some (.ref d), some v, some y, some (.int t), some vx, some (.int (r : Int)), some vo, some (.ref f)]) (H := H5) (eaV_cons (pr (a0_int (tot rfl)) ((x_cat (n := 12) (m := 1) (exv rfl hx5) (ev_tup (Pa := fun vs _ => ∃ i : Int, vs = [.int i]) ((ea_one er_int).imp fun vs H' ⟨v1, e1, p1⟩ => ⟨0, by rw [e1, show v1 = .int 0 from p1]⟩) (fun vs _ ⟨i, e⟩ => by rw [e]; show 1 ≤ 100000; decide) fun vs Ha a Hb ⟨i, e⟩ k hh => ⟨[i], ⟨a, [.int i], rfl, by rw [hh, e], .cons rfl .nil⟩, Nat.le_refl _⟩) (by decide)).imp fun _ _ p => p.a0)) (eaV_cons (pr (a0_int (tot rfl)) ((x_sl (Pl := True) (Ph := True) (exv rfl hx5) (sl_at er_int) sl_no).imp fun _ _ p => p.a0)) (eaV_cons (pr (er_bl.imp fun v _ p => ⟨.bl true, p⟩) ((exv rfl hx5).imp fun _ _ p => p.a0)) (eaV_cons (ok_tup (n := 103) (ea0_cons (a0_int (tot rfl)) (fun _ _ p => p) (ea0_cons ((exv rfl hx5).imp fun _ _ p => p.a0) (fun _ _ p => p) (ea0_cons (a0_int er_int) (fun _ _ p => p) ea0_nil))) (by decide)) (eaV_cons (pr (a0_str (tot rfl) (by omega)) ((exv rfl hx5).imp fun _ _ p => p.a0)) (eaV_cons ok_dct eaV_nil)))))) (by decide)) H5 (Ex.refl e5.good) _ fun b H6 hb e6 ⟨ys, hys, hyl, hyo⟩ => ?_
    have hxs6 := (e5.trans e6).keep f _ (fun z => z) (fun e => hdf (Option.some.inj e)) hxs
    refine ⟨f, b, xs, ys, rfl, rfl, hxs6, hys, sz_of (by omega), fun p hp => ?_⟩
    have e7 := (Ex.refl e6.good).new (o := .lst (xs ++ ys)) hp
    refine ⟨d, p, xs ++ ys, rfl, e7.good.dice d rfl, rd_ne (e6.good.dice d rfl) hp, upd_same, by rw [List.length_append]; omega, by rw [List.length_append]; omega, fun j u H8 e8 hj => qq u H8 ((e6.trans e7).trans e8) ?_⟩
    refine okV_mo (e7.trans e8) ?_
    rcases List.mem_append.mp (List.mem_of_getElem? hj) with hm | hm
    · exact okV_mo (e5.trans e6) (hxo u hm)
    · exact hyo u hm
end KX
namespace KX
open PySem PySem.Spec PyProof.Rows L2
def spd3 {α β γ : Type} (R : Rel α) (S : Rel β) (T : Rel γ) (pre : α → β → γ → Prop) (post : α → β → γ → V → Hp → Prop) : Sp := fun vs H Q _ => ∃ d v w z a b c, vs = [.ref d, v, w, z] ∧ DiceAt H d ∧ R H v a ∧ S H w b ∧ T H z c ∧ pre a b c ∧ ∀ u H', Ex M0 (some d) H H' → post a b c u H' → Q u H'
section
variable {K : PySem.W.Frag} {M : Ads} {D : Option Addr} {σ : L2.St} {H : Hp} {t0 ta tb tc : TE} {α β γ : Type} {R : Rel α} {S : Rel β} {T : Rel γ} {d : Addr}
theorem ev_d3 [Mo R] [Mo S] {pre : α → β → γ → Prop} {post : α → β → γ → V → Hp → Prop} {a : α} {b : β} {c : γ} (h0 : Ev M (some d) t0 σ H fun v _ => v = .ref d) (h1 : EvR M (some d) ta σ H R a) (h2 : EvR M (some d) tb σ H S b) (h3 : EvR M (some d) tc σ H T c) (hp : pre a b c) : Ev M (some d) (tCall (spd3 R S T pre post) [] E0 (tCons t0 (tCons ta (tCons tb (tCons tc tNil))))) σ H (post a b c) :=
  ev_call (ea_cons h0 (ea_cons h1 (ea_cons h2 (ea_one h3)))) fun vs H1 e ⟨x, r, ev, ex, v, r2, ev2, p1, w, r3, ev3, p2, z, ev4, p3⟩ Q q => ⟨d, v, w, z, a, b, c, by rw [ev, ev2, ev3, ev4, ex]; rfl, e.good.dice d rfl, p1, p2, p3, hp, fun u H' e2 p => q u H' e2 p⟩
theorem er_neB {a b : Bool} (ha : EvR M D ta σ H RB a) (hb : EvR M D tb σ H RB b) : EvR M D (tOp rNe ta tb) σ H RB (!decide (a = b)) :=
  ev_op ha hb fun x y H1 e p q Q k => by
    rw [show x = .bl a from p, show y = .bl b from q]
    refine ⟨rfl, k _ H1 (Ex.refl e.good.m0) ?_⟩
    show V.bl _ = V.bl _
    congr 1
    simp
end
theorem best_bd (ch : List KM.Rg) (k : Nat) : 0 ≤ KM.best ch k ∧ KM.best ch k ≤ (ch.length : Int) + k := by
  unfold KM.best
  split
  · rename_i t ht
    have := List.mem_range.mp (List.mem_of_find?_eq_some ht)
    omega
  · omega
theorem big60 : (1000 : Int) < 10 ^ 60 := by decide +kernel
theorem tup_cls {ch : List KM.Rg} {x : List Int} : tupA ch (.tupi x) = (decide (x.length = ch.length) && (ch.zip x).all fun p => decide (0 ≤ p.2) && decide (p.2 < p.1.1)) := by
  rw [tupA_t]
  congr 2
  funext p
  congr 1
  exact decide_eq_decide.mpr (by omega)
theorem least_same {ch : List KM.Rg} {k : Nat} (hb : ch.length + k ≤ 1000) (a : A1) : leastB ch k a = leastL ch k (KM.best ch k) a := by
  have hbd := best_bd ch k
  have big := big60
  unfold leastB
  split
  · rename_i d x
    rw [leastL_t, clsL_t]
    have hc : clsA ch (.tup [.int d, .tupi x]) = (A0.isS (.int d) && tupA ch (.tupi x)) := rfl
    rw [hc, tup_cls]
    by_cases hd : d = KM.best ch k
    · have hs : A0.isS (.int d) = true := by
        show decide ((if d < 0 then -d else d) < 10 ^ 60) = true
        rw [if_neg (by omega)]
        exact decide_eq_true (by omega)
      rw [hs, Bool.true_and]
    · rw [decide_eq_false hd]
      simp
  · rename_i hno
    unfold leastL
    split
    · rename_i d x
      exact absurd rfl (hno d x)
    · rfl
theorem told_is {H : Hp} {v : V} {d : Int} {x : List Int} (h : RP RI RHp H v (d, x)) : RA1 H v (.tup [.int d, .tupi x]) := by
  obtain ⟨a, y, z, e, h1, h2, h3⟩ := h
  exact ⟨a, _, e, h1, .cons h2 (.cons h3 .nil)⟩
theorem told_ok {ch : List KM.Rg} {k : Nat} {x : List Int} (t : KM.Tup ch x) (hr : KM.richGE (KM.heapOf ch x) ch.length (KM.best ch k) k = true) : leastL ch k (KM.best ch k) (.tup [.int (KM.best ch k), .tupi x]) = true := by
  rw [leastL_t, clsL_t, hr, decide_eq_true rfl, decide_eq_true t.len.symm, Bool.true_and, Bool.and_true, Bool.and_true, List.all_eq_true]
  intro p hp
  obtain ⟨j, hj⟩ := List.mem_iff_getElem?.mp hp
  obtain ⟨h1, h2⟩ := List.getElem?_zip_eq_some.mp hj
  have := (KM.tup_iff.mp t).2 j p.1 p.2 h1 h2
  rw [decide_eq_true this.1, decide_eq_true this.2]
  rfl
variable {P : Program} {w : World} {K : PySem.W.Frag} {mg : Str → Option Value} {base : PySem.Heap} {A : Nat → Addr} {F : Nat → FuncData}
def sp__law_k_right : Sp := spd3 RCh RN RI (fun ch k due => CokL ch ∧ k ≤ 40 ∧ due = KM.best ch k) fun _ _ _ v _ => v = .bl true
theorem a1_nt (l : List A0) : ∀ m, A1.tup l ≠ .a0 (.tupi m) := fun _ z => nomatch z
theorem ok__law_k_right (T : Prog K mg A F) : FnOk P w K mg base CX0 9 (A 47) (F 47) ["_law_dice_here", "_law_chain_here", "_law_k", "_law_due"] sp__law_k_right := by
  have G__law_is_least := ok__law_is_least (P := P) (w := w) (base := base) T
  have G__law_spoilt := ok__law_spoilt (P := P) (w := w) (base := base) T
  have G_is_least_class := ok_is_least_class (P := P) (w := w) (base := base) T
  have G_least_class := ok_least_class (P := P) (w := w) (base := base) T
  have G_least_degree := ok_least_degree (P := P) (w := w) (base := base) T
  have sc := sc__law_k_right
  refine T.d__law_k_right.ok sc__law_k_right (fun vs H Q E h => ?_) (fun cdv _ outer s H vs Q E hr h => ?_)
  · obtain ⟨_, _, _, _, _, _, _, rfl, _⟩ := h
    rfl
  · obtain ⟨d, v, y, z, ch, k, due, rfl, hd, rc, rk, rd, ⟨okl, hk40, hdue⟩, q⟩ := h
    subst hdue
    have ok5 := okl.ok5
    have ok := ok5.ok
    have h5 := ok5.five
    have h1 := ok.one
    have hbd := best_bd ch k
    have g := goodD hd
    have e0 : Ex M0 (some d) H H := Ex.refl g
    have rd : z = .int (KM.best ch k) := rd
    subst rd
    refine ⟨_, (pss_cons (ps_set (i := 4) sc.nd rfl (.inl rfl) (pe_call G_least_class (hr.mono (by decide)) (by rfl) T.d_least_class.at_ T.d_least_class.fn.kp T.d_least_class.bi .nil pass0 (pa_cons (pv 1) (pa_cons (pv 2) pa_nil))))
      (pss_cons (ps_if (PW.pt (pw_or (pt_cmpR op_ne (pe_call G_least_degree (hr.mono (by decide)) (by rfl) T.d_least_degree.at_ T.d_least_degree.fn.kp T.d_least_degree.bi .nil pass0 (pa_cons (pv 1) (pa_cons (pv 2) pa_nil))) (pv 3) (nomark _)) (pw_or (pt_not (pt_val (pe_call G__law_is_least (hr.mono (by decide)) (by rfl) T.d__law_is_least.at_ T.d__law_is_least.fn.kp T.d__law_is_least.bi .nil pass0 (pa_cons (pv 1) (pa_cons (pv 2) (pa_cons (pv 3) (pa_cons (pv 4) pa_nil))))))) (pw_or1 (pt_not (pt_val (pe_call G_is_least_class (hr.mono (by decide)) (by rfl) T.d_is_least_class.at_ T.d_is_least_class.fn.kp T.d_is_least_class.bi .nil pass0 (pa_cons (pv 1) (pa_cons (pv 2) (pa_cons (pv 4) pa_nil)))))))))) (pss_one (ps_ret pe_bl)) pss_nil)
      (pss_cons (ps_for PassesOwn.never rfl (pi_range1 rfl T.range (pa_cons pe_int pa_nil)) (pg_name (i := 5) sc.nd rfl (.inl rfl)) (pss_cons (ps_set (i := 6) sc.nd rfl (.inl rfl) (pe_call G__law_spoilt (hr.mono (by decide)) (by rfl) T.d__law_spoilt.at_ T.d__law_spoilt.fn.kp T.d__law_spoilt.bi .nil pass0 (pa_cons (pv 0) (pa_cons (pv 1) (pa_cons (pv 4) pa_nil)))))
      (pss_one (ps_if (pt_cmpR op_ne (pe_call G_is_least_class (hr.mono (by decide)) (by rfl) T.d_is_least_class.at_ T.d_is_least_class.fn.kp T.d_is_least_class.bi .nil pass0 (pa_cons (pv 1) (pa_cons (pv 2) (pa_cons (pv 6) pa_nil)))) (pe_call G__law_is_least (hr.mono (by decide)) (by rfl) T.d__law_is_least.at_ T.d__law_is_least.fn.kp T.d__law_is_least.bi .nil pass0 (pa_cons (pv 1) (pa_cons (pv 2) (pa_cons (pv 3) (pa_cons (pv 6) pa_nil))))) (nomark _)) (pss_one (ps_ret pe_bl)) pss_nil))))
      (pss_one (ps_ret pe_bl))))), ?_⟩
    refine q_set (M := M0) (D := some d) e0 (ev_c2 (er_var rfl rc) (er_var rfl rk) ⟨ok5, hk40⟩) fun vt H1 e1 ⟨x, rt, tx, hrich⟩ => ?_
    have rt1 := told_is rt
    have hL := told_ok tx hrich
    have hB : leastB ch k (.tup [.int (KM.best ch k), .tupi x]) = true := by rw [least_same (by omega)]; exact hL
    have rc1 := e1.mo rc
    have rk1 := e1.mo rk
    refine q_when (M := M0) (D := some d) (Ex.refl e1.good) ((et_or (et_test (er_ne (ev_c2 (er_var rfl rc1) (er_var rfl rk1) ⟨ok5, hk40⟩) (er_var (R := RI) (a := KM.best ch k) rfl rfl))) fun _ => et_or (et_not (et_B (EvR.eq (R := RB) (ev_c4 (er_var rfl rc1) (er_var rfl rk1) (er_var (R := RI) (a := KM.best ch k) rfl rfl) (er_var rfl rt1) ⟨ok5, by omega, by omega, a1_nt _⟩) hL))) fun _ => et_not (et_B (EvR.eq (R := RB) (ev_c3 (er_var rfl rc1) (er_var rfl rk1) (er_var rfl rt1) ⟨ok5, hk40, a1_nt _⟩) hB))).eq (b := false) (by simp)) (fun hb => by cases hb) fun _ H2 e2 => ?_
    have e12 := e1.trans e2
    refine q_for (M := M0) (D := some d) (R := RN) (xs := List.range 3) (Ex.refl e2.good) (ei_rng1 (n := 3) er_int rfl (by omega)) (fun i σ' H' => ∃ a b, σ' = [some (.ref d), some v, some y, some (.int (KM.best ch k)), some vt, a, b]) ⟨_, _, rfl⟩ (fun i σ' H' H'' h e => h) ?_ ?_
    · rintro i u c σ' H' hx e r ⟨a, b, rfl⟩ N hN
      refine g_name ?_
      have e3 := e12.then e
      have rc3 := e3.mo rc
      have rk3 := e3.mo rk
      have rt3 := (e2.trans e).mo rt
      refine q_set (M := M0) (D := some d) (P := OkV) (Ex.refl e.good) (ev_d2 (d := d) (ev_var rfl) (er_var rfl rc3) (er_var rfl rt3) ⟨fun r hr => ok.ok r hr, ok.one, ok.most, tx.len.symm, hbd.1, by show KM.best ch k ≤ 1000; omega⟩) fun vv H4 e4 ⟨av, hav, hnt⟩ => ?_
      have rc4 := e4.mo rc3
      have rk4 := e4.mo rk3
      refine s_when (M := M0) (D := some d) (Ex.refl e4.good) ((et_test (er_neB (a := leastB ch k av) (b := leastL ch k (KM.best ch k) av) (ev_c3 (er_var rfl rc4) (er_var rfl rk4) (er_var rfl hav) ⟨ok5, hk40, hnt⟩) (ev_c4 (er_var rfl rc4) (er_var rfl rk4) (er_var (R := RI) (a := KM.best ch k) rfl rfl) (er_var rfl hav) ⟨ok5, by omega, by omega, hnt⟩))).eq (b := false) (by rw [least_same (by omega)]; simp)) (fun hb => by cases hb) fun _ H5 e5 => hN _ H5 (e4.trans e5) ⟨_, _, rfl⟩
    · rintro σ' H' e ⟨a, b, rfl⟩
      exact s_ret (M := M0) (D := some d) (Ex.refl e.good) er_bl fun u H3 e3 p => q u H3 ((e12.then e).trans e3) p
end KX
namespace KX
open PySem PySem.Spec PyProof.Rows L2
variable {P : Program} {w : World} {K : PySem.W.Frag} {mg : Str → Option Value} {base : PySem.Heap} {A : Nat → Addr} {F : Nat → FuncData}
theorem due_get {ch : List KM.Rg} {n k : Nat} (h : k < n) : ((List.range n).map (KM.best ch))[k]? = some (KM.best ch k) := by
  rw [List.getElem?_map, List.getElem?_range h]
  rfl
def sp__law_right : Sp := fun vs H Q _ => ∃ d, vs = [.ref d] ∧ DiceAt H d ∧ ∀ H', Ex M0 (some d) H H' → Q (.bl true) H'
theorem ok__law_right (T : Prog K mg A F) : FnOk P w K mg base CX0 10 (A 48) (F 48) ["_law_dice_here"] sp__law_right := by
  have G__law_all_tuples := ok__law_all_tuples (P := P) (w := w) (base := base) T
  have G__law_best := ok__law_best (P := P) (w := w) (base := base) T
  have G__law_chain := ok__law_chain (P := P) (w := w) (base := base) T
  have G__law_k_right := ok__law_k_right (P := P) (w := w) (base := base) T
  have G__law_one_of := ok__law_one_of (P := P) (w := w) (base := base) T
  have G__law_roll := ok__law_roll (P := P) (w := w) (base := base) T
  have G_least_degree := ok_least_degree (P := P) (w := w) (base := base) T
  have sc := sc__law_right
  refine T.d__law_right.ok sc__law_right (fun vs H Q E h => ?_) (fun cdv _ outer s H vs Q E hr h => ?_)
  · obtain ⟨_, rfl, _⟩ := h
    rfl
  · obtain ⟨d, rfl, hd, q⟩ := h
    have g := goodD hd
    have e0 : Ex M0 (some d) H H := Ex.refl g
    refine ⟨_, (pss_cons (ps_set (i := 1) sc.nd rfl (.inl rfl) (pe_op op_add pe_int (pe_call G__law_roll (hr.mono (by decide)) (by rfl) T.d__law_roll.at_ T.d__law_roll.fn.kp T.d__law_roll.bi .nil pass0 (pa_cons (pv 0) (pa_cons pe_int pa_nil)))))
      (pss_cons (ps_set (i := 2) sc.nd rfl (.inr rfl) (pe_call G__law_chain (hr.mono (by decide)) (by rfl) T.d__law_chain.at_ T.d__law_chain.fn.kp T.d__law_chain.bi .nil pass0 (pa_cons (pv 0) (pa_cons (pv 1) (pa_cons (pe_ifExp (pt_cmpR op_gt (pv 1) pe_int (nomark _)) (pe_call G__law_one_of (hr.mono (by decide)) (by rfl) T.d__law_one_of.at_ T.d__law_one_of.fn.kp T.d__law_one_of.bi .nil pass0 (pa_cons (pv 0) (pa_cons (pe_lst (pa_cons pe_int (pa_cons pe_int (pa_cons pe_int pa_nil)))) pa_nil))) pe_int) pa_nil)))))
      (pss_cons (ps_set (i := 3) sc.nd rfl (.inr rfl) (pe_call G__law_all_tuples (hr.mono (by decide)) (by rfl) T.d__law_all_tuples.at_ T.d__law_all_tuples.fn.kp T.d__law_all_tuples.bi .nil pass0 (pa_cons (pv 2) pa_nil)))
      (pss_cons (ps_set (i := 4) sc.nd rfl (.inr rfl) (pe_lc (own := [("_law_k", 5)]) (g := gName 5) (tt := tYes) rfl sc.nd (pi_range1 rfl T.range (pa_cons (pe_op op_add (pv 1) pe_int) pa_nil)) (blkOk_by (N := N__law_right) (sc := defScope s__law_right) (by decide +kernel)) (fun _ _ _ _ _ => (pg_name (i := 5) sc.nd rfl (.inl rfl))) (fun _ _ _ _ _ => pts_nil) (fun _ _ _ _ _ => (pe_call G__law_best (hr.mono (by decide)) (by rfl) T.d__law_best.at_ T.d__law_best.fn.kp T.d__law_best.bi .nil pass0 (pa_cons (pv 2) (pa_cons (pv 5) (pa_cons (pv 3) pa_nil)))))))
      (pss_cons (ps_if (PW.pt (pw_or (pt_cmpR op_ne (pe_ix (k_ixL K rfl) (pv 4) pe_int (fun _ _ => rfl)) pe_int (nomark _)) (pw_or (pt_cmpR (k_neD K rfl hr.units) (pe_lc (own := [("_law_k", 5)]) (g := gName 5) rfl sc.nd (pi_range1 rfl T.range (pa_cons (pv 1) pa_nil)) (blkOk_by (N := N__law_right) (sc := defScope s__law_right) (by decide +kernel)) (fun _ _ _ _ _ => (pg_name (i := 5) sc.nd rfl (.inl rfl))) (fun _ _ _ _ _ => (pts_one (pt_cmpR op_le (pe_ix (k_ixL K rfl) (pv 4) (pe_op op_add (pv 5) pe_int) (fun _ _ => rfl)) (pe_ix (k_ixL K rfl) (pv 4) (pv 5) (fun _ _ => rfl)) (nomark _)))) (fun _ _ _ _ _ => pe_int)) (pe_lst pa_nil) (nomark _)) (pw_or1 (pt_cmpR op_ne (pe_ix (k_ixL K rfl) (pv 4) (pv 1) (fun _ _ => rfl)) (pe_op op_mul pe_int (pv 1)) (nomark _)))))) (pss_one (ps_ret pe_bl)) pss_nil)
      (pss_cons (ps_if (pt_cmpR (k_neD K rfl hr.units) (pe_lc (own := [("_law_k", 5)]) (g := gName 5) (tt := tYes) rfl sc.nd (pi_range1 rfl T.range (pa_cons (pe_op op_add (pv 1) pe_int) pa_nil)) (blkOk_by (N := N__law_right) (sc := defScope s__law_right) (by decide +kernel)) (fun _ _ _ _ _ => (pg_name (i := 5) sc.nd rfl (.inl rfl))) (fun _ _ _ _ _ => pts_nil) (fun _ _ _ _ _ => (pe_call G_least_degree (hr.mono (by decide)) (by rfl) T.d_least_degree.at_ T.d_least_degree.fn.kp T.d_least_degree.bi .nil pass0 (pa_cons (pv 2) (pa_cons (pv 5) pa_nil))))) (pv 4) (nomark _)) (pss_one (ps_ret pe_bl)) pss_nil)
      (pss_cons (ps_if (PW.pt (pw_or (PW.pt (pw_and (pt_cmpR op_gt (pv 1) pe_int (nomark _)) (pw_and1 (pt_cmpR op_ne (pe_ix (k_ixL K rfl) (pv 4) (pe_op op_sub (pv 1) pe_int) (fun _ _ => rfl)) (pe_op op_sub (pe_op op_mul pe_int (pv 1)) pe_int) (nomark _))))) (pw_or1 (pt_cmpR op_ne (pe_call G_least_degree (hr.mono (by decide)) (by rfl) T.d_least_degree.at_ T.d_least_degree.fn.kp T.d_least_degree.bi .nil pass0 (pa_cons (pv 2) (pa_cons pe_int pa_nil))) (pe_op op_add (pv 1) pe_int) (nomark _))))) (pss_one (ps_ret pe_bl)) pss_nil)
      (pss_cons (ps_set (i := 5) sc.nd rfl (.inl rfl) (pe_call G__law_roll (hr.mono (by decide)) (by rfl) T.d__law_roll.at_ T.d__law_roll.fn.kp T.d__law_roll.bi .nil pass0 (pa_cons (pv 0) (pa_cons (pe_op op_add (pv 1) pe_int) pa_nil))))
      (pss_one (ps_ret (pe_call G__law_k_right (hr.mono (by decide)) (by rfl) T.d__law_k_right.at_ T.d__law_k_right.fn.kp T.d__law_k_right.bi .nil pass0 (pa_cons (pv 0) (pa_cons (pv 2) (pa_cons (pv 5) (pa_cons (pe_ix (k_ixL K rfl) (pv 4) (pv 5) (fun _ _ => rfl)) pa_nil))))))))))))))), ?_⟩
    refine q_set (M := M0) (D := some d) (P := fun v _ => ∃ i, v = .int i ∧ 1 ≤ i ∧ i ≤ 5) e0 (ep_roll (p := fun i => i = 1) (t := 5) (ep_int rfl) (ev_d1 (d := d) (ev_var rfl) er_int ⟨by omega, by omega⟩) fun i j hi hj => ⟨by omega, by omega⟩) fun v1 H1 e1 ⟨i, ev, hi⟩ => ?_
    obtain ⟨n, rfl⟩ : ∃ n : Nat, i = (n : Int) := ⟨i.toNat, by omega⟩
    subst ev
    refine q_set (M := M0) (D := some d) (P := fun v H' => ∃ ch, RCh H' v ch ∧ ch.length = n ∧ CokL ch) (Ex.refl e1.good) (ev_call (ea_cons (ev_var (v := .ref d) rfl) (ea_cons (er_var (R := RN) (a := n) rfl rfl) (ea_one (ev_if (P := fun v _ => ∃ m : Int, v = .int m ∧ (2 ≤ m ∧ m ≤ 5 ∧ (3 < n → m ≤ 3))) (p := fun b => b = decide (3 < n)) (EvT.imp (et_test (er_gt (er_var (R := RI) (a := (n : Int)) rfl rfl) er_int)) fun b hb => by rw [hb]; exact decide_eq_decide.mpr (by omega)) (fun hb H3 e3 Q qq => ?_) fun hb => er_int.imp fun v _ p => ⟨5, p, by omega, by omega, fun h => absurd (of_decide_eq_false hb.symm) (by omega)⟩)))) fun vs H3 e3 ⟨x, r, ev, ex, v1, r2, ev2, p1, v2, ev3, m, em, pm⟩ Q qq => ⟨d, v1, v2, n, m, by rw [ev, ev2, ev3, ex]; rfl, e3.good.dice d rfl, p1, em, ⟨by omega, by omega, pm.1, pm.2.1⟩, fun u H' e4 ⟨ch, h1, h2, h3⟩ => qq u H' e4 ⟨ch, h1, h2, ⟨⟨⟨fun r hr => (h3 r hr).1, by omega, by omega⟩, by omega⟩, fun r hr => by have := (h3 r hr).2; omega, fun hg r hr => by have := (h3 r hr).2; have := pm.2.2 (by omega); omega⟩⟩⟩) fun vc H2 e2 ⟨ch, rc, hlen, okl⟩ => ?_
    · refine ⟨_, rfl, ?_⟩
      refine en_lst (M := M0) (D := some d) (σ := [some (.ref d), some (.int (n : Int)), none, none, none, none]) (H := H3) (PN := fun p H' => H' p = some (.lst [.int 2, .int 3, .int 3])) (Pa := fun vs _ => vs = [.int 2, .int 3, .int 3]) ((ea_cons er_int (ea_cons er_int (ea_one er_int))).imp fun vs H' ⟨v1, r1, e1, p1, v2, r2, e2, p2, v3, e3, p3⟩ => by rw [e1, e2, e3, show v1 = .int 2 from p1, show v2 = .int 3 from p2, show v3 = .int 3 from p3]) (fun vs _ e => by rw [e]; show 3 ≤ 100000; decide) (fun vs Ha a Hb e k hh => by rw [hh, e]) H3 (Ex.refl e3.good) _ fun p H4 hp e4 hl => ?_
      refine ⟨d, p, _, rfl, e4.good.dice d rfl, rd_ne (e3.good.dice d rfl) hp, hl, by decide, by decide, fun j u H5 e5 hj => qq u H5 (e4.trans e5) ?_⟩
      have hj3 := (List.getElem?_eq_some_iff.mp hj).1
      have hj3 : j < 3 := hj3
      have hjc : j = 0 ∨ j = 1 ∨ j = 2 := by omega
      rcases hjc with rfl | rfl | rfl <;> cases hj
      · exact ⟨2, rfl, by omega, by omega, fun _ => by omega⟩
      · exact ⟨3, rfl, by omega, by omega, fun _ => by omega⟩
      · exact ⟨3, rfl, by omega, by omega, fun _ => by omega⟩
    · subst hlen
      have ok5 := okl.ok5
      have ok := ok5.ok
      have h5 := ok5.five
      have h1 := ok.one
      refine q_new (M := M0) (D := some d) (Ex.refl e2.good) (en_c1 (er_var rfl rc) ⟨fun r hr => ⟨ok.ok r hr, okl.five r hr⟩, h5⟩) fun tp H3 htp e3 lt => ?_
      have hdt : some d ≠ some tp := npD e2.good htp
      have rc3 := e3.mo rc
      refine q_new (M := M0) (D := some d) (Ex.refl e3.good) (el_map (R := RN) (S := RI) (KM.best ch) (ei_rng1 (n := ch.length + 2) (er_add (er_var (R := RI) (a := (ch.length : Int)) rfl rfl) er_int) (by omega) (by omega)) (by rw [List.length_range]; omega) fun j u k H' hx e rk => tg_name (fun _ => rfl) (ev_c3 (er_var rfl (e.mo rc3)) (er_var rfl rk) (er_lsA (ev_var rfl) (e.lat (fun z => z) hdt lt) (fun z => z) hdt) ⟨okl, ?_, rfl⟩)) fun du H4 hdu e4 ld => ?_
      · have := List.mem_range.mp (List.mem_of_getElem? hx)
        omega
      · have hdd : some d ≠ some du := npD e3.good hdu
        have rc4 := e4.mo rc3
        have e14 := ((e1.trans e2).trans e3).trans e4
        have b0 : KM.best ch 0 = 0 := KM.best_zero ok.rg ok.one
        have bl : KM.best ch ch.length = 2 * (ch.length : Int) := KM.best_len ok.rg ok.one
        have bg : KM.best ch 40 = (ch.length : Int) + 40 := KM.best_great (ex_tup ok) ok.one (by omega)
        have bs : ∀ k, k < ch.length → ¬ KM.best ch (k + 1) ≤ KM.best ch k := fun k hk => by
          have := KM.best_step ok.rg ok.one hk
          omega
        have bla : KM.best ch (ch.length - 1) = 2 * (ch.length : Int) - 2 := KM.best_last ok.rg ok.one
        have ix : ∀ {σ : L2.St} {H' : Hp} {te : TE} {i : Int} {k : Nat}, σ[4]? = some (some (.ref du)) → LAt H' du RI ((List.range (ch.length + 2)).map (KM.best ch)) → EvR M0 (some d) te σ H' RI i → i = (k : Int) → k < ch.length + 2 → EvR M0 (some d) (tOp (rIxL K) (tVar 4) te) σ H' RI (KM.best ch k) := fun hs hl he hi hk => er_ixL (R := RI) (ev_var hs) he hl (fun z => z) hdd hi (due_get hk)
        refine q_when (M := M0) (D := some d) (Ex.refl e4.good) ((et_or (et_test (er_ne (ix (k := 0) rfl ld er_int rfl (by omega)) er_int)) fun _ => et_or (et_test (er_neE (R := RI) (el_lc (R := RN) (S := RI) (fun k => decide (KM.best ch (k + 1) ≤ KM.best ch k)) (fun _ => 1) (ei_rng1 (n := ch.length) (er_var (R := RI) (a := (ch.length : Int)) rfl rfl) rfl (by omega)) (by rw [List.length_range]; omega) fun j u k H' hx e rk => tg_name (fun _ => rfl) ⟨et_test (er_le (ix (k := k + 1) rfl (e.lat (fun z => z) hdd ld) (er_add (er_nat (er_var rfl rk) rfl) er_int) (by omega) ?_) (ix (k := k) rfl (e.lat (fun z => z) hdd ld) (er_nat (er_var rfl rk) rfl) rfl ?_)), fun _ => er_int⟩))) fun _ => et_test (er_ne (ix (k := ch.length) rfl ld (er_var (R := RI) (a := (ch.length : Int)) rfl rfl) rfl (by omega)) (er_mul er_int (er_var (R := RI) (a := (ch.length : Int)) rfl rfl) (.inl (by decide))))).eq (b := false) ?_) (fun hb => by cases hb) fun _ H5 e5 => ?_
        · have := List.mem_range.mp (List.mem_of_getElem? hx)
          omega
        · have := List.mem_range.mp (List.mem_of_getElem? hx)
          omega
        · rw [b0, bl, List.filter_eq_nil_iff.mpr fun k hk => by
            have := bs k (List.mem_range.mp hk)
            simpa using this]
          simp
        · have ld5 := e5.lat (fun z => z) hdd ld
          have rc5 := e5.mo rc4
          refine q_when (M := M0) (D := some d) (Ex.refl e5.good) ((et_test (er_neI (el_map (R := RN) (S := RI) (KM.best ch) (ei_rng1 (n := ch.length + 2) (er_add (er_var (R := RI) (a := (ch.length : Int)) rfl rfl) er_int) (by omega) (by omega)) (by rw [List.length_range]; omega) fun j u k H' hx e rk => tg_name (fun _ => rfl) (ev_c2 (er_var rfl (e.mo rc5)) (er_var rfl rk) ⟨ok5, Nat.le_trans (Nat.le_of_lt (List.mem_range.mp (List.mem_of_getElem? hx))) (by omega)⟩)) (ev_var rfl) ld5 (fun z => z) hdd)).eq (b := false) (by simp)) (fun hb => by cases hb) fun _ H6 e6 => ?_
          · have ld6 := e6.lat (fun z => z) hdd ld5
            have rc6 := e6.mo rc5
            refine q_when (M := M0) (D := some d) (Ex.refl e6.good) ((et_or (et_and (et_test (er_gt (er_var (R := RI) (a := (ch.length : Int)) rfl rfl) er_int)) fun _ => et_test (er_ne (ix (k := ch.length - 1) rfl ld6 (er_sub (er_var (R := RI) (a := (ch.length : Int)) rfl rfl) er_int) (by omega) (by omega)) (er_sub (er_mul er_int (er_var (R := RI) (a := (ch.length : Int)) rfl rfl) (.inl (by decide))) er_int))) fun _ => et_test (er_ne (ev_c2 (R := RCh) (S := RN) (a := ch) (b := 40) (er_var rfl rc6) (er_toN er_int rfl) ⟨ok5, by omega⟩) (er_add (er_var (R := RI) (a := (ch.length : Int)) rfl rfl) er_int))).eq (b := false) (by rw [bla, bg]; simp)) (fun hb => by cases hb) fun _ H7 e7 => ?_
            have ld7 := e7.lat (fun z => z) hdd ld6
            have rc7 := e7.mo rc6
            have e17 := ((e14.trans e5).trans e6).trans e7
            refine q_set (M := M0) (D := some d) (Ex.refl e7.good) (ev_d1 (d := d) (ev_var rfl) (er_add (er_var (R := RI) (a := (ch.length : Int)) rfl rfl) er_int) ⟨by omega, by omega⟩) fun vk H8 e8 ⟨r, er, hr⟩ => ?_
            subst er
            have ld8 := e8.lat (fun z => z) hdd ld7
            have rc8 := e8.mo rc7
            refine s_ret (M := M0) (D := some d) (Ex.refl e8.good) (ev_d3 (d := d) (ev_var rfl) (er_var rfl rc8) (er_var (R := RN) (a := r) rfl rfl) (ix (k := r) rfl ld8 (er_var (R := RI) (a := (r : Int)) rfl rfl) rfl (by omega)) ⟨okl, by omega, rfl⟩) fun u H9 e9 p => ?_
            rw [show u = .bl true from p]
            exact q H9 ((e17.trans e8).trans e9)
def sp_law (K : PySem.W.Frag) : Sp := fun vs H Q _ => ∃ (sp : Addr) (ns : List Int), vs = [.ref sp] ∧ SqL K H sp (ns.map V.int) ∧ ns.length < 1000 ∧ ∀ H', Same H H' → Q (.bl true) H'
theorem ok_law (T : Prog K mg A F) : FnOk P w K mg base CX0 11 (A 49) (F 49) ["_law_script"] (sp_law K) := by
  have G__law_dice := ok__law_dice (P := P) (w := w) (base := base) T
  have G__law_right := ok__law_right (P := P) (w := w) (base := base) T
  have sc := sc_law
  refine T.d_law.ok sc_law (fun vs H Q E h => ?_) (fun cdv _ outer s H vs Q E hr h => ?_)
  · obtain ⟨_, _, rfl, _⟩ := h
    rfl
  · obtain ⟨sp, ns, rfl, hs, hz, q⟩ := h
    refine ⟨_, (pss_cons (ps_for PassesOwn.never rfl (pi_range1 rfl T.range (pa_cons (pe_callB (call_max2 rfl) (by rfl) T.max (by decide +kernel) (pa_cons pe_int (pa_cons (pe_callB (call_min2 rfl) (by rfl) T.min (by decide +kernel) (pa_cons pe_int (pa_cons (pe_callB (k_len K rfl) (by rfl) T.len (by decide +kernel) (pa_cons (pv 0) pa_nil)) pa_nil))) pa_nil))) pa_nil)) (pg_name (i := 1) sc.nd rfl (.inl rfl)) (pss_one (ps_if (pt_not (pt_val (pe_call G__law_right (hr.mono (by decide)) (by rfl) T.d__law_right.at_ T.d__law_right.fn.kp T.d__law_right.bi .nil pass0 (pa_cons (pe_call G__law_dice (hr.mono (by decide)) (by rfl) T.d__law_dice.at_ T.d__law_dice.fn.kp T.d__law_dice.bi .nil pass0 (pa_cons (pv 0) (pa_cons (pv 1) pa_nil))) pa_nil)))) (pss_one (ps_ret pe_bl)) pss_nil)))
      (pss_one (ps_ret pe_bl))), ?_⟩
    have hlen : (ns.map V.int).length = ns.length := List.length_map ..
    obtain ⟨n, hn1, hn2⟩ : ∃ n : Nat, (if (if (ns.length : Int) < 3 then (ns.length : Int) else 3) > 1 then (if (ns.length : Int) < 3 then (ns.length : Int) else 3) else 1) = (n : Int) ∧ n ≤ 3 := by
      refine ⟨((if (if (ns.length : Int) < 3 then (ns.length : Int) else 3) > 1 then (if (ns.length : Int) < 3 then (ns.length : Int) else 3) else 1) : Int).toNat, ?_, ?_⟩ <;> split <;> split <;> omega
    refine q_for (M := M0) (D := none) (R := RN) (xs := List.range n) e00 (ei_rng1 (n := n) (er_max er_int (er_min er_int (er_nat (i := (ns.length : Int)) (er_lenS (ev_var rfl) hs (fun z => z) (fun z => nomatch z)) (by rw [hlen])))) hn1 (by omega)) (fun i σ' H' => ∃ a, σ' = [some (.ref sp), a]) ⟨_, rfl⟩ (fun i σ' H' H'' h e => h) ?_ ?_
    · rintro i u k σ' H' hx e r ⟨a, rfl⟩ N hN
      have hk := List.mem_range.mp (List.mem_of_getElem? hx)
      refine g_name ?_
      refine s_when (M := M0) (D := none) (p := fun b => b = false) (Ex.refl good0) ?_ (fun hb => by cases hb) fun _ H3 e3 => hN _ H3 e3 ⟨_, rfl⟩
      intro H2 e2 Q2 q2
      have hs2 := (e.trans e2).seqL (fun z => z) (fun z => nomatch z) hs
      have r2 : u = .int (k : Int) := r
      subst r2
      refine ⟨_, rfl, _, rfl, sp, ns, k, rfl, hs2, hz, by omega, fun p H3 hp s3 hd3 => ⟨p, rfl, hd3, fun H4 e4 => ⟨true, rfl, ?_⟩⟩⟩
      refine q2 false H4 ?_ rfl
      have a1 : Ex M0 none H2 H3 := Ex.same good0 s3
      refine ⟨fun b o _ _ hb => ?_, a1.sta.trans e4.sta, fun b hb => a1.there b (e4.there b hb), good0⟩
      refine e4.keep b o (fun z => z) (fun z => ?_) (s3 b o hb)
      cases z
      rw [hp] at hb
      cases hb
    · rintro σ' H' e ⟨a, rfl⟩
      refine s_ret (M := M0) (D := none) (Ex.refl good0) er_bl fun u H3 e3 p => ?_
      rw [show u = .bl true from p]
      exact q H3 (e.trans e3).toSame
end KX
namespace KX
open PySem PySem.Spec PyProof.Rows L2
/-! ### the head: facts by names, the run -/
abbrev RW : PySem.W.OpenRow := PySem.W.OpenLaw.row PySem.Challenge.rw_ringstairs_k80_whole_least_degrees_and_c
def dd__law_dice : He.DefD := ⟨("_law_dice", none), "_law_dice", "_law_dice", defArgs s__law_dice, defBody s__law_dice, defScope s__law_dice, [], []⟩
def dd__law_longer : He.DefD := ⟨("_law_longer", none), "_law_longer", "_law_longer", defArgs s__law_longer, defBody s__law_longer, defScope s__law_longer, [], []⟩
def dd__law_all_tuples : He.DefD := ⟨("_law_all_tuples", none), "_law_all_tuples", "_law_all_tuples", defArgs s__law_all_tuples, defBody s__law_all_tuples, defScope s__law_all_tuples, [], []⟩
def dd__law_grown : He.DefD := ⟨("_law_grown", none), "_law_grown", "_law_grown", defArgs s__law_grown, defBody s__law_grown, defScope s__law_grown, [], []⟩
def dd__law_heap : He.DefD := ⟨("_law_heap", none), "_law_heap", "_law_heap", defArgs s__law_heap, defBody s__law_heap, defScope s__law_heap, [], []⟩
def dd__law_rich : He.DefD := ⟨("_law_rich", none), "_law_rich", "_law_rich", defArgs s__law_rich, defBody s__law_rich, defScope s__law_rich, [], []⟩
def dd__law_best : He.DefD := ⟨("_law_best", none), "_law_best", "_law_best", defArgs s__law_best, defBody s__law_best, defScope s__law_best, [], []⟩
def dd__law_roll : He.DefD := ⟨("_law_roll", none), "_law_roll", "_law_roll", defArgs s__law_roll, defBody s__law_roll, defScope s__law_roll, [], []⟩
def dd__law_ring : He.DefD := ⟨("_law_ring", none), "_law_ring", "_law_ring", defArgs s__law_ring, defBody s__law_ring, defScope s__law_ring, [], []⟩
def dd__law_common : He.DefD := ⟨("_law_common", none), "_law_common", "_law_common", defArgs s__law_common, defBody s__law_common, defScope s__law_common, [], []⟩
def dd__law_one_of : He.DefD := ⟨("_law_one_of", none), "_law_one_of", "_law_one_of", defArgs s__law_one_of, defBody s__law_one_of, defScope s__law_one_of, [], []⟩
def dd__law_ring_of : He.DefD := ⟨("_law_ring_of", none), "_law_ring_of", "_law_ring_of", defArgs s__law_ring_of, defBody s__law_ring_of, defScope s__law_ring_of, [], []⟩
def dd__law_chain : He.DefD := ⟨("_law_chain", none), "_law_chain", "_law_chain", defArgs s__law_chain, defBody s__law_chain, defScope s__law_chain, [], []⟩
def dd__law_is_class : He.DefD := ⟨("_law_is_class", none), "_law_is_class", "_law_is_class", defArgs s__law_is_class, defBody s__law_is_class, defScope s__law_is_class, [], []⟩
def dd__law_is_least : He.DefD := ⟨("_law_is_least", none), "_law_is_least", "_law_is_least", defArgs s__law_is_least, defBody s__law_is_least, defScope s__law_is_least, [], []⟩
def dd__law_spoilt : He.DefD := ⟨("_law_spoilt", none), "_law_spoilt", "_law_spoilt", defArgs s__law_spoilt, defBody s__law_spoilt, defScope s__law_spoilt, [], []⟩
def dd_is_whole : He.DefD := ⟨("is_whole", none), "is_whole", "is_whole", defArgs s_is_whole, defBody s_is_whole, defScope s_is_whole, [], []⟩
def dd_is_integer : He.DefD := ⟨("is_integer", none), "is_integer", "is_integer", defArgs s_is_integer, defBody s_is_integer, defScope s_is_integer, [], []⟩
def dd_is_within : He.DefD := ⟨("is_within", none), "is_within", "is_within", defArgs s_is_within, defBody s_is_within, defScope s_is_within, [], []⟩
def dd_is_tuple_in : He.DefD := ⟨("is_tuple_in", none), "is_tuple_in", "is_tuple_in", defArgs s_is_tuple_in, defBody s_is_tuple_in, defScope s_is_tuple_in, [], []⟩
def dd_is_class_in : He.DefD := ⟨("is_class_in", none), "is_class_in", "is_class_in", defArgs s_is_class_in, defBody s_is_class_in, defScope s_is_class_in, [], []⟩
def dd_box_in : He.DefD := ⟨("box_in", none), "box_in", "box_in", defArgs s_box_in, defBody s_box_in, defScope s_box_in, [], []⟩
def dd_addable_columns : He.DefD := ⟨("addable_columns", none), "addable_columns", "addable_columns", defArgs s_addable_columns, defBody s_addable_columns, defScope s_addable_columns, [], []⟩
def dd_risen : He.DefD := ⟨("risen", none), "risen", "risen", defArgs s_risen, defBody s_risen, defScope s_risen, [], []⟩
def dd_grown_in : He.DefD := ⟨("grown_in", none), "grown_in", "grown_in", defArgs s_grown_in, defBody s_grown_in, defScope s_grown_in, [], []⟩
def dd_heaps_in : He.DefD := ⟨("heaps_in", none), "heaps_in", "heaps_in", defArgs s_heaps_in, defBody s_heaps_in, defScope s_heaps_in, [], []⟩
def dd_heap_in : He.DefD := ⟨("heap_in", none), "heap_in", "heap_in", defArgs s_heap_in, defBody s_heap_in, defScope s_heap_in, [], []⟩
def dd_holds_in : He.DefD := ⟨("holds_in", none), "holds_in", "holds_in", defArgs s_holds_in, defBody s_holds_in, defScope s_holds_in, [], []⟩
def dd_is_rich_in : He.DefD := ⟨("is_rich_in", none), "is_rich_in", "is_rich_in", defArgs s_is_rich_in, defBody s_is_rich_in, defScope s_is_rich_in, [], []⟩
def dd_greatest_of : He.DefD := ⟨("greatest_of", none), "greatest_of", "greatest_of", defArgs s_greatest_of, defBody s_greatest_of, defScope s_greatest_of, [], []⟩
def dd_free_columns : He.DefD := ⟨("free_columns", none), "free_columns", "free_columns", defArgs s_free_columns, defBody s_free_columns, defScope s_free_columns, [], []⟩
def dd_let_columns : He.DefD := ⟨("let_columns", none), "let_columns", "let_columns", defArgs s_let_columns, defBody s_let_columns, defScope s_let_columns, [], []⟩
def dd_order_in : He.DefD := ⟨("order_in", none), "order_in", "order_in", defArgs s_order_in, defBody s_order_in, defScope s_order_in, [], []⟩
def dd_with_columns : He.DefD := ⟨("with_columns", none), "with_columns", "with_columns", defArgs s_with_columns, defBody s_with_columns, defScope s_with_columns, [], []⟩
def dd_grown_rows : He.DefD := ⟨("grown_rows", none), "grown_rows", "grown_rows", defArgs s_grown_rows, defBody s_grown_rows, defScope s_grown_rows, [], []⟩
def dd_letters_put : He.DefD := ⟨("letters_put", none), "letters_put", "letters_put", defArgs s_letters_put, defBody s_letters_put, defScope s_letters_put, [], []⟩
def dd_some_filling_in : He.DefD := ⟨("some_filling_in", none), "some_filling_in", "some_filling_in", defArgs s_some_filling_in, defBody s_some_filling_in, defScope s_some_filling_in, [], []⟩
def dd_filled_box : He.DefD := ⟨("filled_box", none), "filled_box", "filled_box", defArgs s_filled_box, defBody s_filled_box, defScope s_filled_box, [], []⟩
def dd_least_degree_in : He.DefD := ⟨("least_degree_in", none), "least_degree_in", "least_degree_in", defArgs s_least_degree_in, defBody s_least_degree_in, defScope s_least_degree_in, [], []⟩
def dd_is_ring_in : He.DefD := ⟨("is_ring_in", none), "is_ring_in", "is_ring_in", defArgs s_is_ring_in, defBody s_is_ring_in, defScope s_is_ring_in, [], []⟩
def dd_is_chain_in : He.DefD := ⟨("is_chain_in", none), "is_chain_in", "is_chain_in", defArgs s_is_chain_in, defBody s_is_chain_in, defScope s_is_chain_in, [], []⟩
def dd_require_chain : He.DefD := ⟨("require_chain", none), "require_chain", "require_chain", defArgs s_require_chain, defBody s_require_chain, defScope s_require_chain, [], []⟩
def dd_require_richness : He.DefD := ⟨("require_richness", none), "require_richness", "require_richness", defArgs s_require_richness, defBody s_require_richness, defScope s_require_richness, [], []⟩
def dd_is_least_class : He.DefD := ⟨("is_least_class", none), "is_least_class", "is_least_class", defArgs s_is_least_class, defBody s_is_least_class, defScope s_is_least_class, [], []⟩
def dd_tuple_of_filling : He.DefD := ⟨("tuple_of_filling", none), "tuple_of_filling", "tuple_of_filling", defArgs s_tuple_of_filling, defBody s_tuple_of_filling, defScope s_tuple_of_filling, [], []⟩
def dd_least_class : He.DefD := ⟨("least_class", none), "least_class", "least_class", defArgs s_least_class, defBody s_least_class, defScope s_least_class, [], []⟩
def dd_least_degree : He.DefD := ⟨("least_degree", none), "least_degree", "least_degree", defArgs s_least_degree, defBody s_least_degree, defScope s_least_degree, [], []⟩
def dd__law_k_right : He.DefD := ⟨("_law_k_right", none), "_law_k_right", "_law_k_right", defArgs s__law_k_right, defBody s__law_k_right, defScope s__law_k_right, [], []⟩
def dd__law_right : He.DefD := ⟨("_law_right", none), "_law_right", "_law_right", defArgs s__law_right, defBody s__law_right, defScope s__law_right, [], []⟩
def dd_law : He.DefD := ⟨("law", none), "law", "law", defArgs s_law, defBody s_law, defScope s_law, [], []⟩
def defsD0 : List He.DefD := [dd__law_dice, dd__law_longer, dd__law_all_tuples, dd__law_grown, dd__law_heap, dd__law_rich, dd__law_best, dd__law_roll, dd__law_ring, dd__law_common, dd__law_one_of, dd__law_ring_of, dd__law_chain, dd__law_is_class, dd__law_is_least, dd__law_spoilt, dd_is_whole, dd_is_integer, dd_is_within, dd_is_tuple_in, dd_is_class_in, dd_box_in, dd_addable_columns, dd_risen, dd_grown_in]
def defsD1 : List He.DefD := [dd_heaps_in, dd_heap_in, dd_holds_in, dd_is_rich_in, dd_greatest_of, dd_free_columns, dd_let_columns, dd_order_in, dd_with_columns, dd_grown_rows, dd_letters_put, dd_some_filling_in, dd_filled_box, dd_least_degree_in, dd_is_ring_in, dd_is_chain_in, dd_require_chain, dd_require_richness, dd_is_least_class, dd_tuple_of_filling, dd_least_class, dd_least_degree, dd__law_k_right, dd__law_right, dd_law]
def defsD : List He.DefD := defsD0 ++ defsD1
def factsD0 : List He.Fa := [.glo "_law_dice", .glo "_law_longer", .glo "_law_all_tuples", .glo "_law_grown", .glo "_law_heap", .glo "_law_rich", .glo "_law_best", .glo "_law_roll", .glo "_law_ring", .glo "_law_common", .glo "_law_one_of", .glo "_law_ring_of", .glo "_law_chain", .glo "_law_is_class", .glo "_law_is_least", .glo "_law_spoilt", .glo "is_whole", .glo "is_integer", .glo "is_within", .glo "is_tuple_in", .glo "is_class_in", .glo "box_in", .glo "addable_columns", .glo "risen", .glo "grown_in"]
def factsD1 : List He.Fa := [.glo "heaps_in", .glo "heap_in", .glo "holds_in", .glo "is_rich_in", .glo "greatest_of", .glo "free_columns", .glo "let_columns", .glo "order_in", .glo "with_columns", .glo "grown_rows", .glo "letters_put", .glo "some_filling_in", .glo "filled_box", .glo "least_degree_in", .glo "is_ring_in", .glo "is_chain_in", .glo "require_chain", .glo "require_richness", .glo "is_least_class", .glo "tuple_of_filling", .glo "least_class", .glo "least_degree", .glo "_law_k_right", .glo "_law_right", .glo "law"]
def factsD2 : List He.Fa := [.free "len", .free "abs", .free "isinstance", .free "all", .free "any", .free "min", .free "max", .free "int", .free "str", .free "tuple", .free "list", .free "sorted", .free "set", .free "dict", .free "bool", .free "sum", .free "range", .free "zip", .free "enumerate", .int "MOST_RINGS" 12, .int "MOST_PLACES" 60, .int "SIXTY_DIGITS" (10 ^ 60), .int "MOST_RICH" 40]
def factsD : List He.Fa := factsD0 ++ factsD1 ++ factsD2
def looseN0 : List Str := ["RingError", "InvalidChain", "InvalidNumber", "MOST_RINGS", "MOST_PLACES", "SIXTY_DIGITS", "is_whole", "is_integer", "is_within", "is_ring_in", "is_chain_in", "order_in", "require_chain", "is_tuple_in", "is_class_in", "box_in", "holds_in", "addable_columns", "risen", "grown_in", "heaps_in", "heap_in", "free_columns", "with_columns", "let_columns", "letters_put", "greatest_of", "grown_rows", "some_filling_in", "MOST_RICH"]
def looseN1 : List Str := ["filled_box", "least_degree_in", "tuple_of_filling", "is_rich_in", "require_richness", "least_degree", "least_class", "is_least_class", "_law_dice", "_law_roll", "_law_one_of", "_law_mixed", "_law_common", "_law_order", "_law_ring", "_law_ring_of", "_law_chain", "_law_tuple", "_law_grown", "_law_heap", "_law_rich", "_law_all_tuples", "_law_longer", "_law_best", "_law_spoilt", "_law_is_class", "_law_is_least", "_law_k_right", "_law_right"]
def looseN : List Str := looseN0 ++ looseN1
def gcdB (K : PySem.W.Frag) : Bool := He.eqO (PySem.W.nsIn K mainGlobals "gcd") (some (some (.builtin "math.gcd")))
def obsK (g : Addr → Option Obj) : PySem.W.Frag := He.frG g (He.asD g 4)
def obsA (K : PySem.W.Frag) : Bool × He.AlD := (gcdB K, He.obsD factsD defsD K)
def hookK : PySem.W.Hook where
  α := Bool × He.AlD
  obs := fun s => obsA (obsK s.heap.get?)
  val := fun _ => (true, He.valD defsD)
  says := fun _ h => ∃ K : PySem.W.Frag, K.In h ∧ He.SaysD factsD defsD K ∧ gcdB K = true
  of := fun _ _ e => ⟨_, He.frG_in, congrArg Prod.snd e, congrArg Prod.fst e⟩
  keeps := fun _ _ _ ⟨K, hK, c, d⟩ k => ⟨K, PySem.W.Frag.In.keeps hK k, c, d⟩
def obK (s : PySem.W.SharedT) : Bool × He.AlD := obsA (obsK (HandSHeadRun.getT s))
theorem obK_eq (s : PySem.W.SharedT) : obK s = hookK.obs s.abs := by
  have e : HandSHeadRun.getT s = s.abs.heap.get? := funext (HandSHeadRun.getT_eq s)
  show obsA (obsK (HandSHeadRun.getT s)) = obsA (obsK s.abs.heap.get?)
  rw [e]
theorem runK (w : World) : HandSHeadRun.RunEqI RW (PySem.W.view RW.prog [0, 67]) hookK obK 4000 looseN w := by
  unfold HandSHeadRun.RunEqI
  kernel_rfl
theorem factsK {P : Program} {w : World} {K : PySem.W.Frag} {h : PySem.Heap} {mg : Str → Option Value} {f : Addr} (X : K.In h) (G : h.Ns mainGlobals mg) (hfa : mg ("law" : Str) = some (.ref f)) (c : He.SaysD factsD defsD K) (cg : gcdB K = true) :
    ∃ fd : FuncData, (∀ (s : Shared) (v : Value), BindsTo s fd ⟨[v], []⟩ [("_law_script", v)]) ∧ ∀ base : PySem.Heap, K.In base → base.Ns mainGlobals mg → FnOk P w K mg base CX0 11 f fd ["_law_script"] (sp_law K) := by
  obtain ⟨fd0, F0⟩ := c.def_ 0 (d := dd__law_dice) rfl
  obtain ⟨fd1, F1⟩ := c.def_ 1 (d := dd__law_longer) rfl
  obtain ⟨fd2, F2⟩ := c.def_ 2 (d := dd__law_all_tuples) rfl
  obtain ⟨fd3, F3⟩ := c.def_ 3 (d := dd__law_grown) rfl
  obtain ⟨fd4, F4⟩ := c.def_ 4 (d := dd__law_heap) rfl
  obtain ⟨fd5, F5⟩ := c.def_ 5 (d := dd__law_rich) rfl
  obtain ⟨fd6, F6⟩ := c.def_ 6 (d := dd__law_best) rfl
  obtain ⟨fd7, F7⟩ := c.def_ 7 (d := dd__law_roll) rfl
  obtain ⟨fd8, F8⟩ := c.def_ 8 (d := dd__law_ring) rfl
  obtain ⟨fd9, F9⟩ := c.def_ 9 (d := dd__law_common) rfl
  obtain ⟨fd10, F10⟩ := c.def_ 10 (d := dd__law_one_of) rfl
  obtain ⟨fd11, F11⟩ := c.def_ 11 (d := dd__law_ring_of) rfl
  obtain ⟨fd12, F12⟩ := c.def_ 12 (d := dd__law_chain) rfl
  obtain ⟨fd13, F13⟩ := c.def_ 13 (d := dd__law_is_class) rfl
  obtain ⟨fd14, F14⟩ := c.def_ 14 (d := dd__law_is_least) rfl
  obtain ⟨fd15, F15⟩ := c.def_ 15 (d := dd__law_spoilt) rfl
  obtain ⟨fd16, F16⟩ := c.def_ 16 (d := dd_is_whole) rfl
  obtain ⟨fd17, F17⟩ := c.def_ 17 (d := dd_is_integer) rfl
  obtain ⟨fd18, F18⟩ := c.def_ 18 (d := dd_is_within) rfl
  obtain ⟨fd19, F19⟩ := c.def_ 19 (d := dd_is_tuple_in) rfl
  obtain ⟨fd20, F20⟩ := c.def_ 20 (d := dd_is_class_in) rfl
  obtain ⟨fd21, F21⟩ := c.def_ 21 (d := dd_box_in) rfl
  obtain ⟨fd22, F22⟩ := c.def_ 22 (d := dd_addable_columns) rfl
  obtain ⟨fd23, F23⟩ := c.def_ 23 (d := dd_risen) rfl
  obtain ⟨fd24, F24⟩ := c.def_ 24 (d := dd_grown_in) rfl
  obtain ⟨fd25, F25⟩ := c.def_ 25 (d := dd_heaps_in) rfl
  obtain ⟨fd26, F26⟩ := c.def_ 26 (d := dd_heap_in) rfl
  obtain ⟨fd27, F27⟩ := c.def_ 27 (d := dd_holds_in) rfl
  obtain ⟨fd28, F28⟩ := c.def_ 28 (d := dd_is_rich_in) rfl
  obtain ⟨fd29, F29⟩ := c.def_ 29 (d := dd_greatest_of) rfl
  obtain ⟨fd30, F30⟩ := c.def_ 30 (d := dd_free_columns) rfl
  obtain ⟨fd31, F31⟩ := c.def_ 31 (d := dd_let_columns) rfl
  obtain ⟨fd32, F32⟩ := c.def_ 32 (d := dd_order_in) rfl
  obtain ⟨fd33, F33⟩ := c.def_ 33 (d := dd_with_columns) rfl
  obtain ⟨fd34, F34⟩ := c.def_ 34 (d := dd_grown_rows) rfl
  obtain ⟨fd35, F35⟩ := c.def_ 35 (d := dd_letters_put) rfl
  obtain ⟨fd36, F36⟩ := c.def_ 36 (d := dd_some_filling_in) rfl
  obtain ⟨fd37, F37⟩ := c.def_ 37 (d := dd_filled_box) rfl
  obtain ⟨fd38, F38⟩ := c.def_ 38 (d := dd_least_degree_in) rfl
  obtain ⟨fd39, F39⟩ := c.def_ 39 (d := dd_is_ring_in) rfl
  obtain ⟨fd40, F40⟩ := c.def_ 40 (d := dd_is_chain_in) rfl
  obtain ⟨fd41, F41⟩ := c.def_ 41 (d := dd_require_chain) rfl
  obtain ⟨fd42, F42⟩ := c.def_ 42 (d := dd_require_richness) rfl
  obtain ⟨fd43, F43⟩ := c.def_ 43 (d := dd_is_least_class) rfl
  obtain ⟨fd44, F44⟩ := c.def_ 44 (d := dd_tuple_of_filling) rfl
  obtain ⟨fd45, F45⟩ := c.def_ 45 (d := dd_least_class) rfl
  obtain ⟨fd46, F46⟩ := c.def_ 46 (d := dd_least_degree) rfl
  obtain ⟨fd47, F47⟩ := c.def_ 47 (d := dd__law_k_right) rfl
  obtain ⟨fd48, F48⟩ := c.def_ 48 (d := dd__law_right) rfl
  obtain ⟨fd49, F49⟩ := c.def_ 49 (d := dd_law) rfl
  have e := hfa.symm.trans (He.glo_ok X G (c.fact 49 (f := .glo "law") rfl))
  cases e
  have b := FunD.bindsA (ps := ["_law_script"]) F49 fun _ _ _ _ _ _ us hl => match us, hl with | [_], _ => rfl
  refine ⟨fd49, fun s v => b s [v] rfl, fun base _ _ => ?_⟩
  let A : Nat → Addr := fun i => (([He.ga K "_law_dice", He.ga K "_law_longer", He.ga K "_law_all_tuples", He.ga K "_law_grown", He.ga K "_law_heap", He.ga K "_law_rich", He.ga K "_law_best", He.ga K "_law_roll", He.ga K "_law_ring", He.ga K "_law_common", He.ga K "_law_one_of", He.ga K "_law_ring_of", He.ga K "_law_chain", He.ga K "_law_is_class", He.ga K "_law_is_least", He.ga K "_law_spoilt", He.ga K "is_whole", He.ga K "is_integer", He.ga K "is_within", He.ga K "is_tuple_in", He.ga K "is_class_in", He.ga K "box_in", He.ga K "addable_columns", He.ga K "risen", He.ga K "grown_in", He.ga K "heaps_in", He.ga K "heap_in", He.ga K "holds_in", He.ga K "is_rich_in", He.ga K "greatest_of", He.ga K "free_columns", He.ga K "let_columns", He.ga K "order_in", He.ga K "with_columns", He.ga K "grown_rows", He.ga K "letters_put", He.ga K "some_filling_in", He.ga K "filled_box", He.ga K "least_degree_in", He.ga K "is_ring_in", He.ga K "is_chain_in", He.ga K "require_chain", He.ga K "require_richness", He.ga K "is_least_class", He.ga K "tuple_of_filling", He.ga K "least_class", He.ga K "least_degree", He.ga K "_law_k_right", He.ga K "_law_right", He.ga K "law"] : List Addr).getD i 0)
  let F : Nat → FuncData := fun i => (([fd0, fd1, fd2, fd3, fd4, fd5, fd6, fd7, fd8, fd9, fd10, fd11, fd12, fd13, fd14, fd15, fd16, fd17, fd18, fd19, fd20, fd21, fd22, fd23, fd24, fd25, fd26, fd27, fd28, fd29, fd30, fd31, fd32, fd33, fd34, fd35, fd36, fd37, fd38, fd39, fd40, fd41, fd42, fd43, fd44, fd45, fd46, fd47, fd48, fd49] : List FuncData).getD i fd0)
  have T : Prog K mg A F := {
    d__law_dice := ⟨F0, He.glo_ok X G (c.fact 0 (f := .glo "_law_dice") rfl), F0.bindsN fun _ _ _ _ _ _ us hl => match us, hl with | [_, _], _ => rfl⟩
    d__law_longer := ⟨F1, He.glo_ok X G (c.fact 1 (f := .glo "_law_longer") rfl), F1.bindsN fun _ _ _ _ _ _ us hl => match us, hl with | [_, _], _ => rfl⟩
    d__law_all_tuples := ⟨F2, He.glo_ok X G (c.fact 2 (f := .glo "_law_all_tuples") rfl), F2.bindsN fun _ _ _ _ _ _ us hl => match us, hl with | [_], _ => rfl⟩
    d__law_grown := ⟨F3, He.glo_ok X G (c.fact 3 (f := .glo "_law_grown") rfl), F3.bindsN fun _ _ _ _ _ _ us hl => match us, hl with | [_, _, _], _ => rfl⟩
    d__law_heap := ⟨F4, He.glo_ok X G (c.fact 4 (f := .glo "_law_heap") rfl), F4.bindsN fun _ _ _ _ _ _ us hl => match us, hl with | [_, _], _ => rfl⟩
    d__law_rich := ⟨F5, He.glo_ok X G (c.fact 5 (f := .glo "_law_rich") rfl), F5.bindsN fun _ _ _ _ _ _ us hl => match us, hl with | [_, _, _], _ => rfl⟩
    d__law_best := ⟨F6, He.glo_ok X G (c.fact 6 (f := .glo "_law_best") rfl), F6.bindsN fun _ _ _ _ _ _ us hl => match us, hl with | [_, _, _], _ => rfl⟩
    d__law_roll := ⟨F7, He.glo_ok X G (c.fact 7 (f := .glo "_law_roll") rfl), F7.bindsN fun _ _ _ _ _ _ us hl => match us, hl with | [_, _], _ => rfl⟩
    d__law_ring := ⟨F8, He.glo_ok X G (c.fact 8 (f := .glo "_law_ring") rfl), F8.bindsN fun _ _ _ _ _ _ us hl => match us, hl with | [_, _], _ => rfl⟩
    d__law_common := ⟨F9, He.glo_ok X G (c.fact 9 (f := .glo "_law_common") rfl), F9.bindsN fun _ _ _ _ _ _ us hl => match us, hl with | [_, _], _ => rfl⟩
    d__law_one_of := ⟨F10, He.glo_ok X G (c.fact 10 (f := .glo "_law_one_of") rfl), F10.bindsN fun _ _ _ _ _ _ us hl => match us, hl with | [_, _], _ => rfl⟩
    d__law_ring_of := ⟨F11, He.glo_ok X G (c.fact 11 (f := .glo "_law_ring_of") rfl), F11.bindsN fun _ _ _ _ _ _ us hl => match us, hl with | [_, _, _], _ => rfl⟩
    d__law_chain := ⟨F12, He.glo_ok X G (c.fact 12 (f := .glo "_law_chain") rfl), F12.bindsN fun _ _ _ _ _ _ us hl => match us, hl with | [_, _, _], _ => rfl⟩
    d__law_is_class := ⟨F13, He.glo_ok X G (c.fact 13 (f := .glo "_law_is_class") rfl), F13.bindsN fun _ _ _ _ _ _ us hl => match us, hl with | [_, _], _ => rfl⟩
    d__law_is_least := ⟨F14, He.glo_ok X G (c.fact 14 (f := .glo "_law_is_least") rfl), F14.bindsN fun _ _ _ _ _ _ us hl => match us, hl with | [_, _, _, _], _ => rfl⟩
    d__law_spoilt := ⟨F15, He.glo_ok X G (c.fact 15 (f := .glo "_law_spoilt") rfl), F15.bindsN fun _ _ _ _ _ _ us hl => match us, hl with | [_, _, _], _ => rfl⟩
    d_is_whole := ⟨F16, He.glo_ok X G (c.fact 16 (f := .glo "is_whole") rfl), F16.bindsN fun _ _ _ _ _ _ us hl => match us, hl with | [_], _ => rfl⟩
    d_is_integer := ⟨F17, He.glo_ok X G (c.fact 17 (f := .glo "is_integer") rfl), F17.bindsN fun _ _ _ _ _ _ us hl => match us, hl with | [_], _ => rfl⟩
    d_is_within := ⟨F18, He.glo_ok X G (c.fact 18 (f := .glo "is_within") rfl), F18.bindsN fun _ _ _ _ _ _ us hl => match us, hl with | [_, _, _], _ => rfl⟩
    d_is_tuple_in := ⟨F19, He.glo_ok X G (c.fact 19 (f := .glo "is_tuple_in") rfl), F19.bindsN fun _ _ _ _ _ _ us hl => match us, hl with | [_, _], _ => rfl⟩
    d_is_class_in := ⟨F20, He.glo_ok X G (c.fact 20 (f := .glo "is_class_in") rfl), F20.bindsN fun _ _ _ _ _ _ us hl => match us, hl with | [_, _], _ => rfl⟩
    d_box_in := ⟨F21, He.glo_ok X G (c.fact 21 (f := .glo "box_in") rfl), F21.bindsN fun _ _ _ _ _ _ us hl => match us, hl with | [_, _], _ => rfl⟩
    d_addable_columns := ⟨F22, He.glo_ok X G (c.fact 22 (f := .glo "addable_columns") rfl), F22.bindsN fun _ _ _ _ _ _ us hl => match us, hl with | [_], _ => rfl⟩
    d_risen := ⟨F23, He.glo_ok X G (c.fact 23 (f := .glo "risen") rfl), F23.bindsN fun _ _ _ _ _ _ us hl => match us, hl with | [_, _], _ => rfl⟩
    d_grown_in := ⟨F24, He.glo_ok X G (c.fact 24 (f := .glo "grown_in") rfl), F24.bindsN fun _ _ _ _ _ _ us hl => match us, hl with | [_, _, _], _ => rfl⟩
    d_heaps_in := ⟨F25, He.glo_ok X G (c.fact 25 (f := .glo "heaps_in") rfl), F25.bindsN fun _ _ _ _ _ _ us hl => match us, hl with | [_, _], _ => rfl⟩
    d_heap_in := ⟨F26, He.glo_ok X G (c.fact 26 (f := .glo "heap_in") rfl), F26.bindsN fun _ _ _ _ _ _ us hl => match us, hl with | [_, _], _ => rfl⟩
    d_holds_in := ⟨F27, He.glo_ok X G (c.fact 27 (f := .glo "holds_in") rfl), F27.bindsN fun _ _ _ _ _ _ us hl => match us, hl with | [_, _], _ => rfl⟩
    d_is_rich_in := ⟨F28, He.glo_ok X G (c.fact 28 (f := .glo "is_rich_in") rfl), F28.bindsN fun _ _ _ _ _ _ us hl => match us, hl with | [_, _, _, _], _ => rfl⟩
    d_greatest_of := ⟨F29, He.glo_ok X G (c.fact 29 (f := .glo "greatest_of") rfl), F29.bindsN fun _ _ _ _ _ _ us hl => match us, hl with | [_], _ => rfl⟩
    d_free_columns := ⟨F30, He.glo_ok X G (c.fact 30 (f := .glo "free_columns") rfl), F30.bindsN fun _ _ _ _ _ _ us hl => match us, hl with | [_, _], _ => rfl⟩
    d_let_columns := ⟨F31, He.glo_ok X G (c.fact 31 (f := .glo "let_columns") rfl), F31.bindsN fun _ _ _ _ _ _ us hl => match us, hl with | [_, _, _], _ => rfl⟩
    d_order_in := ⟨F32, He.glo_ok X G (c.fact 32 (f := .glo "order_in") rfl), F32.bindsN fun _ _ _ _ _ _ us hl => match us, hl with | [_], _ => rfl⟩
    d_with_columns := ⟨F33, He.glo_ok X G (c.fact 33 (f := .glo "with_columns") rfl), F33.bindsN fun _ _ _ _ _ _ us hl => match us, hl with | [_, _, _], _ => rfl⟩
    d_grown_rows := ⟨F34, He.glo_ok X G (c.fact 34 (f := .glo "grown_rows") rfl), F34.bindsN fun _ _ _ _ _ _ us hl => match us, hl with | [_, _], _ => rfl⟩
    d_letters_put := ⟨F35, He.glo_ok X G (c.fact 35 (f := .glo "letters_put") rfl), F35.bindsN fun _ _ _ _ _ _ us hl => match us, hl with | [_, _], _ => rfl⟩
    d_some_filling_in := ⟨F36, He.glo_ok X G (c.fact 36 (f := .glo "some_filling_in") rfl), F36.bindsN fun _ _ _ _ _ _ us hl => match us, hl with | [_, _], _ => rfl⟩
    d_filled_box := ⟨F37, He.glo_ok X G (c.fact 37 (f := .glo "filled_box") rfl), F37.bindsN fun _ _ _ _ _ _ us hl => match us, hl with | [_, _], _ => rfl⟩
    d_least_degree_in := ⟨F38, He.glo_ok X G (c.fact 38 (f := .glo "least_degree_in") rfl), F38.bindsN fun _ _ _ _ _ _ us hl => match us, hl with | [_, _], _ => rfl⟩
    d_is_ring_in := ⟨F39, He.glo_ok X G (c.fact 39 (f := .glo "is_ring_in") rfl), F39.bindsN fun _ _ _ _ _ _ us hl => match us, hl with | [_], _ => rfl⟩
    d_is_chain_in := ⟨F40, He.glo_ok X G (c.fact 40 (f := .glo "is_chain_in") rfl), F40.bindsN fun _ _ _ _ _ _ us hl => match us, hl with | [_], _ => rfl⟩
    d_require_chain := ⟨F41, He.glo_ok X G (c.fact 41 (f := .glo "require_chain") rfl), F41.bindsN fun _ _ _ _ _ _ us hl => match us, hl with | [_], _ => rfl⟩
    d_require_richness := ⟨F42, He.glo_ok X G (c.fact 42 (f := .glo "require_richness") rfl), F42.bindsN fun _ _ _ _ _ _ us hl => match us, hl with | [_, _], _ => rfl⟩
    d_is_least_class := ⟨F43, He.glo_ok X G (c.fact 43 (f := .glo "is_least_class") rfl), F43.bindsN fun _ _ _ _ _ _ us hl => match us, hl with | [_, _, _], _ => rfl⟩
    d_tuple_of_filling := ⟨F44, He.glo_ok X G (c.fact 44 (f := .glo "tuple_of_filling") rfl), F44.bindsN fun _ _ _ _ _ _ us hl => match us, hl with | [_, _], _ => rfl⟩
    d_least_class := ⟨F45, He.glo_ok X G (c.fact 45 (f := .glo "least_class") rfl), F45.bindsN fun _ _ _ _ _ _ us hl => match us, hl with | [_, _], _ => rfl⟩
    d_least_degree := ⟨F46, He.glo_ok X G (c.fact 46 (f := .glo "least_degree") rfl), F46.bindsN fun _ _ _ _ _ _ us hl => match us, hl with | [_, _], _ => rfl⟩
    d__law_k_right := ⟨F47, He.glo_ok X G (c.fact 47 (f := .glo "_law_k_right") rfl), F47.bindsN fun _ _ _ _ _ _ us hl => match us, hl with | [_, _, _, _], _ => rfl⟩
    d__law_right := ⟨F48, He.glo_ok X G (c.fact 48 (f := .glo "_law_right") rfl), F48.bindsN fun _ _ _ _ _ _ us hl => match us, hl with | [_], _ => rfl⟩
    d_law := ⟨F49, He.glo_ok X G (c.fact 49 (f := .glo "law") rfl), F49.bindsN fun _ _ _ _ _ _ us hl => match us, hl with | [_], _ => rfl⟩
    len := He.free_ok X G (c.fact 50 (f := .free "len") rfl)
    abs := He.free_ok X G (c.fact 51 (f := .free "abs") rfl)
    isinstance := He.free_ok X G (c.fact 52 (f := .free "isinstance") rfl)
    all := He.free_ok X G (c.fact 53 (f := .free "all") rfl)
    any := He.free_ok X G (c.fact 54 (f := .free "any") rfl)
    min := He.free_ok X G (c.fact 55 (f := .free "min") rfl)
    max := He.free_ok X G (c.fact 56 (f := .free "max") rfl)
    int := He.free_ok X G (c.fact 57 (f := .free "int") rfl)
    str := He.free_ok X G (c.fact 58 (f := .free "str") rfl)
    tuple := He.free_ok X G (c.fact 59 (f := .free "tuple") rfl)
    list := He.free_ok X G (c.fact 60 (f := .free "list") rfl)
    sorted := He.free_ok X G (c.fact 61 (f := .free "sorted") rfl)
    set := He.free_ok X G (c.fact 62 (f := .free "set") rfl)
    dict := He.free_ok X G (c.fact 63 (f := .free "dict") rfl)
    bool := He.free_ok X G (c.fact 64 (f := .free "bool") rfl)
    sum := He.free_ok X G (c.fact 65 (f := .free "sum") rfl)
    range := He.free_ok X G (c.fact 66 (f := .free "range") rfl)
    zip := He.free_ok X G (c.fact 67 (f := .free "zip") rfl)
    enumerate := He.free_ok X G (c.fact 68 (f := .free "enumerate") rfl)
    gcd := PySem.W.mg_of X G (He.eqO_ok cg)
    c_MOST_RINGS := He.int_ok X G (c.fact 69 (f := .int "MOST_RINGS" 12) rfl)
    c_MOST_PLACES := He.int_ok X G (c.fact 70 (f := .int "MOST_PLACES" 60) rfl)
    c_SIXTY_DIGITS := He.int_ok X G (c.fact 71 (f := .int "SIXTY_DIGITS" (10 ^ 60)) rfl)
    c_MOST_RICH := He.int_ok X G (c.fact 72 (f := .int "MOST_RICH" 40) rfl)
  }
  exact ok_law (P := P) (w := w) (base := base) T
end KX
open PySem PySem.W PySem.Calls PyProof.Rows
theorem PySem.Challenge.cw_ringstairs_k80_whole_least_degrees_and_c_holds : PySem.Challenge.rw_ringstairs_k80_whole_least_degrees_and_c.Holds := by
  w_on; o_law
  refine HandSHeadRun.head_imp (r := OpenLaw.row PySem.Challenge.rw_ringstairs_k80_whole_least_degrees_and_c) (q := view (OpenLaw.row PySem.Challenge.rw_ringstairs_k80_whole_least_degrees_and_c).prog [0, 67]) (H := KX.hookK) (ob := KX.obK) (M := 4000) (loose := KX.looseN) (d := HandSHeadRun.topDef (OpenLaw.row PySem.Challenge.rw_ringstairs_k80_whole_least_degrees_and_c).prog 67) (kwd := []) KX.obK_eq
    KX.runK (by kernel_rfl) (by kernel_rfl) (by kernel_rfl) (by rfl) (by first | assumption | decide +kernel) (by decide +kernel) ⟨rfl, rfl, rfl, rfl, rfl, by decide +kernel⟩ ?hw ?hc
  case hw => w_witness2
  case hc =>
    refine L2.walk_ofE (l := PySem.Challenge.rw_ringstairs_k80_whole_least_degrees_and_c) (n := 63) (k := 11) (x := "_law_script") (CX := L2.CX0) rfl (by decide) (by kernel_rfl) ⟨rfl, by decide, by decide⟩ ?F (fun _ _ _ _ z => z)
    intro w mg fa h Y G hmg0
    obtain ⟨K, KX0, c, cg⟩ := Y
    have hmg : mg ("law" : PySem.Str) = some (.ref fa) := by
      have e : (HandSHeadRun.topDef (OpenLaw.row PySem.Challenge.rw_ringstairs_k80_whole_least_degrees_and_c).prog 67).name = ("law" : PySem.Str) := by kernel_rfl
      rw [← e]
      exact hmg0
    obtain ⟨fd, hb, hF⟩ := KX.factsK (P := (PySem.Challenge.rw_ringstairs_k80_whole_least_degrees_and_c).prog) (w := w) KX0 G hmg c cg
    exact ⟨K, fd, KX.sp_law K, KX0, hb, fun H a ns hl _ hS => ⟨a, ns, rfl, hS, by omega, fun _ _ => rfl⟩, hF⟩
