import PyProof.Rows.All
import Wide.All
import OpenK.AllK
import Wide.FinOn
import HandS.ForMost
import HandS.Zip
import HandS.TupAny
import HandS.Deep
import HandS.IsInst
import HandS.Style
import HandS.Conv
import HandS.Exc
import HandS.TryOnly
import HandS.WordsExc
import HandS.Walk
import HandS.DictComp
import HandS.More
import KE.KDictKeyed
import KE.KDictLaw
import KE.KDictZip
import KE.GoesMore
import KE.GoesZip
import PySem.Challenge.RW_pacehall_k76_whole_none_of_all_orders
set_option Elab.async false
set_option linter.all false
set_option maxRecDepth 100000
set_option maxHeartbeats 4000000
/-! The plain law: places, walks, orders, the greedy order. No program in sight. -/
namespace PH

abbrev Pl := List Nat
abbrev Ord := List (Nat × Int)

/-- p is a place of sizes -/
def IsPl : List Nat → Pl → Prop
  | [], [] => True
  | s :: r, a :: p => a < s ∧ IsPl r p
  | _, _ => False

theorem IsPl.len : ∀ {sz : List Nat} {p : Pl}, IsPl sz p → p.length = sz.length
  | [], [], _ => rfl
  | s :: r, a :: p, h => by
    have := IsPl.len (sz := r) (p := p) h.2
    simp [this]
  | [], _ :: _, h => h.elim
  | _ :: _, [], h => h.elim
theorem IsPl.at : ∀ {sz : List Nat} {p : Pl}, IsPl sz p → ∀ (i : Nat), i < sz.length → p.getD i 0 < sz.getD i 0
  | [], [], _, i, hi => by simp at hi
  | s :: r, a :: p, h, 0, _ => by simpa using h.1
  | s :: r, a :: p, h, i + 1, hi => by
    have := IsPl.at (sz := r) (p := p) h.2 i (by simpa using hi)
    simpa using this
  | [], _ :: _, h, _, _ => h.elim
  | _ :: _, [], h, _, _ => h.elim
theorem IsPl.mk : ∀ {sz : List Nat} {p : Pl}, p.length = sz.length → (∀ (i : Nat), i < sz.length → p.getD i 0 < sz.getD i 0) → IsPl sz p
  | [], [], _, _ => trivial
  | s :: r, a :: p, hl, h => ⟨by simpa using h 0 (by simp), IsPl.mk (by simpa using hl) fun i hi => by simpa using h (i + 1) (by simpa using hi)⟩
  | [], _ :: _, h, _ => by simp at h
  | _ :: _, [], h, _ => by simp at h

/-- all places, row by row -/
def placesR : List Nat → List Pl
  | [] => [[]]
  | s :: r => (List.range s).flatMap fun a => (placesR r).map (a :: ·)
theorem mem_placesR : ∀ {sz : List Nat} {p : Pl}, p ∈ placesR sz ↔ IsPl sz p
  | [], [] => by simp [placesR, IsPl]
  | [], _ :: _ => by simp [placesR, IsPl]
  | s :: r, [] => by simp [placesR, IsPl]
  | s :: r, a :: p => by
    simp only [placesR, List.mem_flatMap, List.mem_range, List.mem_map, IsPl]
    constructor
    · rintro ⟨x, hx, q, hq, e⟩
      injection e with e1 e2
      subst e1; subst e2
      exact ⟨hx, mem_placesR.mp hq⟩
    · rintro ⟨h1, h2⟩
      exact ⟨a, h1, p, mem_placesR.mpr h2, rfl⟩
def prod : List Nat → Nat
  | [] => 1
  | s :: r => s * prod r
theorem len_flatMap {α β : Type} (f : α → List β) (n : Nat) : ∀ l : List α, (∀ a ∈ l, (f a).length = n) → (l.flatMap f).length = l.length * n
  | [], _ => by simp
  | a :: l, h => by
    rw [List.flatMap_cons, List.length_append, len_flatMap f n l fun b hb => h b (List.mem_cons_of_mem _ hb), h a List.mem_cons_self, List.length_cons, Nat.succ_mul]
    omega
theorem len_placesR : ∀ sz : List Nat, (placesR sz).length = prod sz
  | [] => rfl
  | s :: r => by
    unfold placesR prod
    rw [len_flatMap _ (prod r) _ fun a _ => by rw [List.length_map, len_placesR r], List.length_range]

/-! the loops as they run -/
def stepP (found : List Pl) (size : Nat) : List Pl := found.flatMap fun p => (List.range size).map fun a => p ++ [a]
def placesF (sz : List Nat) : List Pl := sz.foldl stepP [[]]
theorem foldl_stepP : ∀ (sz : List Nat) (found : List Pl), sz.foldl stepP found = found.flatMap fun p => (placesR sz).map (p ++ ·)
  | [], found => by
    simp only [List.foldl_nil, placesR, List.map_cons, List.map_nil, List.append_nil]
    induction found with
    | nil => rfl
    | cons a l ih => rw [List.flatMap_cons, ← ih]; rfl
  | s :: r, found => by
    rw [List.foldl_cons, foldl_stepP r]
    unfold stepP
    rw [List.flatMap_assoc]
    congr 1
    funext p
    simp only [placesR, List.map_flatMap, List.flatMap_map, List.map_map]
    congr 1
    funext a
    congr 1
    funext q
    simp
theorem placesF_eq (sz : List Nat) : placesF sz = placesR sz := by
  unfold placesF
  rw [foldl_stepP]
  simp
def dot : Pl → List Int → Int
  | a :: p, c :: r => (a : Int) * c + dot p r
  | _, _ => 0
def stepC (found : List Int) (ax : Nat × Int) : List Int := found.flatMap fun c => (List.range ax.1).map fun a : Nat => c + ax.2 * (a : Int)
theorem foldl_stepC : ∀ (axes : List (Nat × Int)) (found : List Int), axes.foldl stepC found = found.flatMap fun c => (placesR (axes.map (·.1))).map fun p => c + dot p (axes.map (·.2))
  | [], found => by
    simp only [List.foldl_nil, placesR, List.map_cons, List.map_nil, dot, Int.add_zero]
    induction found with
    | nil => rfl
    | cons a l ih => rw [List.flatMap_cons, ← ih]; rfl
  | x :: r, found => by
    rw [List.foldl_cons, foldl_stepC r]
    unfold stepC
    rw [List.flatMap_assoc]
    congr 1
    funext c
    simp only [List.map_cons, placesR, List.map_flatMap, List.flatMap_map, List.map_map]
    congr 1
    funext a
    congr 1
    funext q
    simp only [Function.comp, dot]
    rw [Int.mul_comm x.2 (a : Int), Int.add_assoc]
theorem cellsF_eq (axes : List (Nat × Int)) (f : Int) : axes.foldl stepC [f] = (placesR (axes.map (·.1))).map fun p => f + dot p (axes.map (·.2)) := by
  rw [foldl_stepC]
  simp
/-- the number of a place, as the law's own loop reckons it -/
def numF : Nat → List Nat → Pl → Nat
  | n, s :: r, k :: p => numF (n * s + k) r p
  | n, _, _ => n
theorem numF_eq : ∀ {sz : List Nat} {p : Pl} (n : Nat), IsPl sz p → numF n sz p = n * prod sz + numF 0 sz p
  | [], [], n, _ => by simp [numF, prod]
  | s :: r, a :: p, n, h => by
    unfold numF
    rw [numF_eq (n * s + a) h.2, numF_eq (0 * s + a) h.2, show prod (s :: r) = s * prod r from rfl, Nat.zero_mul, Nat.zero_add, Nat.add_mul, Nat.mul_assoc]
    omega
  | [], _ :: _, _, h => h.elim
  | _ :: _, [], _, h => h.elim
theorem flat_get {α : Type} (f : Nat → List α) (L : Nat) : ∀ (s : Nat), (∀ a, a < s → (f a).length = L) → ∀ a j : Nat, a < s → j < L → ((List.range s).flatMap f)[a * L + j]? = (f a)[j]?
  | 0, _, a, _, h, _ => by omega
  | s + 1, hL, a, j, ha, hj => by
    have hl : ((List.range s).flatMap f).length = s * L := by
      rw [len_flatMap f L _ fun b hb => hL b (Nat.lt_succ_of_lt (List.mem_range.mp hb)), List.length_range]
    rw [List.range_succ, List.flatMap_append, List.flatMap_singleton]
    by_cases h : a < s
    · rw [List.getElem?_append_left]
      · exact flat_get f L s (fun b hb => hL b (Nat.lt_succ_of_lt hb)) a j h hj
      · rw [hl]
        have h1 : (a + 1) * L ≤ s * L := Nat.mul_le_mul_right _ h
        rw [Nat.succ_mul] at h1
        omega
    · have e : a = s := by omega
      subst e
      rw [List.getElem?_append_right (by rw [hl]; omega), hl]
      congr 1
      omega
theorem get_num : ∀ {sz : List Nat} {p : Pl}, IsPl sz p → (placesR sz)[numF 0 sz p]? = some p
  | [], [], _ => rfl
  | s :: r, a :: p, h => by
    have ih := get_num (sz := r) (p := p) h.2
    have hlt : numF 0 r p < prod r := by
      rw [← len_placesR]
      exact (List.getElem?_eq_some_iff.mp ih).1
    have e : numF 0 (s :: r) (a :: p) = a * prod r + numF 0 r p := by
      show numF (0 * s + a) r p = _
      rw [numF_eq _ h.2, Nat.zero_mul, Nat.zero_add]
    rw [e]
    unfold placesR
    rw [flat_get _ (prod r) s (fun a _ => by rw [List.length_map, len_placesR]) a _ h.1 hlt, List.getElem?_map, ih]
    rfl
  | [], _ :: _, h => h.elim
  | _ :: _, [], h => h.elim
theorem num_lt {sz : List Nat} {p : Pl} (h : IsPl sz p) : numF 0 sz p < prod sz := by
  rw [← len_placesR]
  exact (List.getElem?_eq_some_iff.mp (get_num h)).1

/-! walks by an order -/
def numsBy (size : Nat) (way : Int) : List Nat := if way = -1 then (List.range size).reverse else List.range size
def stepW (sz : List Nat) (found : List Pl) (row : Nat × Int) : List Pl := found.flatMap fun p => (numsBy (sz.getD row.1 0) row.2).map fun k => p.set row.1 k
def walkF (sz : List Nat) (O : Ord) : List Pl := O.foldl (stepW sz) [List.replicate sz.length 0]
def gap (ax : Nat) (pr : Pl × Pl) : Int := (pr.1.getD ax 0 : Int) - (pr.2.getD ax 0 : Int)
/-- the pair comes right: the second is ahead of the first -/
def right : Ord → Pl × Pl → Prop
  | [], _ => False
  | row :: r, pr => 0 < gap row.1 pr * row.2 ∨ (gap row.1 pr = 0 ∧ right r pr)
structure IsOrder (n : Nat) (O : Ord) : Prop where
  nd : (O.map (·.1)).Nodup
  lt : ∀ x ∈ O, x.1 < n
  way : ∀ x ∈ O, x.2 = 1 ∨ x.2 = -1
  len : O.length = n
theorem nodup_small : ∀ (n : Nat) (l : List Nat), l.Nodup → (∀ x ∈ l, x < n) → l.length ≤ n ∧ (l.length = n → ∀ a, a < n → a ∈ l)
  | 0, l, _, h => by
    have e : l = [] := by
      cases l with
      | nil => rfl
      | cons x r => exact absurd (h x List.mem_cons_self) (Nat.not_lt_zero _)
    subst e
    exact ⟨Nat.le_refl _, fun _ a ha => by omega⟩
  | n + 1, l, hn, h => by
    by_cases hm : n ∈ l
    · have h1 := nodup_small n (l.erase n) (hn.erase n) fun x hx => by
        have h2 := (List.Nodup.mem_erase_iff hn).mp hx
        have := h x h2.2
        have := h2.1
        omega
      have e := List.length_erase_of_mem hm
      have hp : 0 < l.length := List.length_pos_of_mem hm
      refine ⟨by omega, fun hl a ha => ?_⟩
      by_cases ea : a = n
      · rw [ea]; exact hm
      · exact List.mem_of_mem_erase (h1.2 (by omega) a (by omega))
    · have h1 := nodup_small n l hn fun x hx => by
        have := h x hx
        have : x ≠ n := fun e => hm (e ▸ hx)
        omega
      exact ⟨by omega, fun hl => by omega⟩
theorem nodup_sub : ∀ (l m : List Nat), l.Nodup → (∀ x ∈ l, x ∈ m) → l.length ≤ m.length
  | [], _, _, _ => Nat.zero_le _
  | a :: l, m, hn, h => by
    have ha := h a List.mem_cons_self
    have h1 := nodup_sub l (m.erase a) (List.nodup_cons.mp hn).2 fun x hx => by
      have hxa : x ≠ a := fun e => (List.nodup_cons.mp hn).1 (e ▸ hx)
      exact (List.mem_erase_of_ne hxa).mpr (h x (List.mem_cons_of_mem _ hx))
    have e := List.length_erase_of_mem ha
    have hp : 0 < m.length := List.length_pos_of_mem ha
    rw [List.length_cons]
    omega
theorem IsOrder.all {n : Nat} {O : Ord} (h : IsOrder n O) : ∀ a, a < n → a ∈ O.map (·.1) :=
  (nodup_small n _ h.nd fun x hx => by
    obtain ⟨y, hy, e⟩ := List.mem_map.mp hx
    rw [← e]; exact h.lt y hy).2 (by rw [List.length_map]; exact h.len)
theorem gap_swap (ax : Nat) (p q : Pl) : gap ax (q, p) = - gap ax (p, q) := by
  unfold gap
  show (q.getD ax 0 : Int) - p.getD ax 0 = -((p.getD ax 0 : Int) - q.getD ax 0)
  omega
theorem right_asymm : ∀ (O : Ord) (p q : Pl), right O (p, q) → right O (q, p) → False
  | [], _, _, h, _ => h
  | row :: r, p, q, h1, h2 => by
    unfold right at h1 h2
    rw [gap_swap row.1 p q] at h2
    rcases h1 with h1 | ⟨h1, k1⟩
    · rcases h2 with h2 | ⟨h2, _⟩
      · rw [Int.neg_mul] at h2; omega
      · have : gap row.1 (p, q) = 0 := by omega
        rw [this] at h1; simp at h1
    · rcases h2 with h2 | ⟨_, k2⟩
      · rw [h1] at h2; simp at h2
      · exact right_asymm r p q k1 k2
theorem mul_way {g w : Int} (hw : w = 1 ∨ w = -1) (hg : g ≠ 0) : 0 < g * w ∨ 0 < (-g) * w := by
  rcases hw with rfl | rfl
  · simp only [Int.mul_one]; omega
  · simp only [Int.mul_neg, Int.mul_one, Int.neg_neg]; omega
theorem right_total : ∀ (O : Ord) (p q : Pl), (∀ x ∈ O, x.2 = 1 ∨ x.2 = -1) → (∃ x ∈ O, gap x.1 (p, q) ≠ 0) → right O (p, q) ∨ right O (q, p)
  | [], _, _, _, h => by obtain ⟨_, h, _⟩ := h; simp at h
  | row :: r, p, q, hw, h => by
    unfold right
    rw [gap_swap row.1 p q]
    by_cases e : gap row.1 (p, q) = 0
    · have h' : ∃ x ∈ r, gap x.1 (p, q) ≠ 0 := by
        obtain ⟨x, hx, hg⟩ := h
        rcases List.mem_cons.mp hx with rfl | hx
        · exact absurd e hg
        · exact ⟨x, hx, hg⟩
      rcases right_total r p q (fun x hx => hw x (List.mem_cons_of_mem _ hx)) h' with k | k
      · exact .inl (.inr ⟨e, k⟩)
      · exact .inr (.inr ⟨by omega, k⟩)
    · rcases mul_way (hw row List.mem_cons_self) e with k | k
      · exact .inl (.inl k)
      · exact .inr (.inl k)
theorem getD_ext {n : Nat} {p q : Pl} (hp : p.length = n) (hq : q.length = n) (h : ∀ i, i < n → p.getD i 0 = q.getD i 0) : p = q := by
  refine List.ext_getElem (by omega) fun i h1 h2 => ?_
  have := h i (by omega)
  rw [List.getD_eq_getElem?_getD, List.getD_eq_getElem?_getD, List.getElem?_eq_getElem h1, List.getElem?_eq_getElem h2] at this
  simpa using this
theorem gap_ne {n : Nat} {p q : Pl} (hp : p.length = n) (hq : q.length = n) (hne : p ≠ q) : ∃ i, i < n ∧ gap i (p, q) ≠ 0 := by
  by_cases h : ∃ i, i < n ∧ gap i (p, q) ≠ 0
  · exact h
  · refine absurd (getD_ext hp hq fun i hi => ?_) hne
    by_cases e : gap i (p, q) = 0
    · unfold gap at e
      have e' : (p.getD i 0 : Int) - (q.getD i 0 : Int) = 0 := e
      omega
    · exact absurd ⟨i, hi, e⟩ h
theorem IsOrder.total {n : Nat} {O : Ord} (h : IsOrder n O) {p q : Pl} (hp : p.length = n) (hq : q.length = n) (hne : p ≠ q) : right O (p, q) ∨ right O (q, p) := by
  obtain ⟨i, hi, g⟩ := gap_ne hp hq hne
  obtain ⟨x, hx, e⟩ := List.mem_map.mp (h.all i hi)
  exact right_total O p q h.way ⟨x, hx, by rw [e]; exact g⟩
theorem right_append {O R : Ord} {pr : Pl × Pl} : right O pr → right (O ++ R) pr := by
  induction O with
  | nil => intro h; exact h.elim
  | cons x r ih =>
    intro h
    rcases h with h | ⟨h, k⟩
    · exact .inl h
    · exact .inr ⟨h, ih k⟩
theorem right_snoc {O : Ord} {row : Nat × Int} {pr : Pl × Pl} (h0 : ∀ x ∈ O, gap x.1 pr = 0) (h : 0 < gap row.1 pr * row.2) : right (O ++ [row]) pr := by
  induction O with
  | nil => exact .inl h
  | cons x r ih => exact .inr ⟨h0 x List.mem_cons_self, ih fun y hy => h0 y (List.mem_cons_of_mem _ hy)⟩

/-! the walk's list: each place once, in the order -/
structure WInv (sz : List Nat) (O : Ord) (L : List Pl) : Prop where
  mem : ∀ p, p ∈ L ↔ p.length = sz.length ∧ ∀ i, i < sz.length → (i ∈ O.map (·.1) → p.getD i 0 < sz.getD i 0) ∧ (i ∉ O.map (·.1) → p.getD i 0 = 0)
  pw : L.Pairwise fun p q => right O (q, p)
theorem mem_numsBy {s : Nat} {w : Int} {k : Nat} : k ∈ numsBy s w ↔ k < s := by
  unfold numsBy
  split <;> simp
theorem pw_numsBy (s : Nat) {w : Int} (hw : w = 1 ∨ w = -1) : (numsBy s w).Pairwise fun (a b : Nat) => 0 < ((b : Int) - (a : Int)) * w := by
  unfold numsBy
  rcases hw with rfl | rfl
  · rw [if_neg (by decide)]
    exact (List.pairwise_lt_range (n := s)).imp fun {a b} h => by simp only [Int.mul_one]; omega
  · rw [if_pos rfl, List.pairwise_reverse]
    exact (List.pairwise_lt_range (n := s)).imp fun {a b} h => by simp only [Int.mul_neg, Int.mul_one]; omega
theorem getD_set (p : Pl) (ax k i : Nat) (h : ax < p.length) : (p.set ax k).getD i 0 = if i = ax then k else p.getD i 0 := by
  rw [List.getD_eq_getElem?_getD, List.getD_eq_getElem?_getD, List.getElem?_set]
  by_cases e : ax = i
  · subst e; simp [h]
  · rw [if_neg e, if_neg (fun z => e z.symm)]
theorem right_congr {O : Ord} {p q p' q' : Pl} (h : ∀ x ∈ O, gap x.1 (p, q) = gap x.1 (p', q')) : right O (p, q) → right O (p', q') := by
  induction O with
  | nil => exact id
  | cons x r ih =>
    intro k
    have e := h x List.mem_cons_self
    rcases k with k | ⟨k, k2⟩
    · exact .inl (by rw [← e]; exact k)
    · exact .inr ⟨by rw [← e]; exact k, ih (fun y hy => h y (List.mem_cons_of_mem _ hy)) k2⟩
theorem WInv.step {sz : List Nat} {O : Ord} {L : List Pl} {row : Nat × Int} (I : WInv sz O L) (h0 : row.1 < sz.length) (hn : row.1 ∉ O.map (·.1)) (hw : row.2 = 1 ∨ row.2 = -1) : WInv sz (O ++ [row]) (stepW sz L row) := by
  have hmem : ∀ i, i ∈ (O ++ [row]).map (·.1) ↔ i ∈ O.map (·.1) ∨ i = row.1 := fun i => by
    rw [List.map_append, List.mem_append]
    simp
  constructor
  · intro p
    unfold stepW
    simp only [List.mem_flatMap, List.mem_map, mem_numsBy]
    constructor
    · rintro ⟨q, hq, k, hk, rfl⟩
      obtain ⟨hl, hi⟩ := (I.mem q).mp hq
      refine ⟨by rw [List.length_set]; exact hl, fun i h => ?_⟩
      rw [getD_set _ _ _ _ (by omega), ← List.mem_map, hmem]
      by_cases e : i = row.1
      · rw [if_pos e, e]
        exact ⟨fun _ => hk, fun z => absurd (Or.inr rfl) z⟩
      · rw [if_neg e]
        exact ⟨fun z => (hi i h).1 (z.resolve_right e), fun z => (hi i h).2 fun y => z (Or.inl y)⟩
    · rintro ⟨hl, hi⟩
      refine ⟨p.set row.1 0, (I.mem _).mpr ⟨by rw [List.length_set]; exact hl, fun i h => ?_⟩, p.getD row.1 0, ?_, ?_⟩
      · rw [getD_set _ _ _ _ (by omega)]
        by_cases e : i = row.1
        · rw [if_pos e, e]
          exact ⟨fun z => absurd z hn, fun _ => rfl⟩
        · rw [if_neg e]
          have := hi i h
          rw [← List.mem_map, hmem] at this
          exact ⟨fun z => this.1 (Or.inl z), fun z => this.2 fun y => y.elim z e⟩
      · have := hi row.1 h0
        rw [← List.mem_map, hmem] at this
        exact this.1 (Or.inr rfl)
      · refine getD_ext (n := sz.length) (by rw [List.length_set, List.length_set]; exact hl) hl fun i h => ?_
        rw [getD_set _ _ _ _ (by rw [List.length_set]; omega), getD_set _ _ _ _ (by omega)]
        by_cases e : i = row.1
        · rw [if_pos e, e]
        · rw [if_neg e, if_neg e]
  · unfold stepW
    have hax : ∀ p ∈ L, row.1 < p.length := fun p hp => by rw [((I.mem p).mp hp).1]; exact h0
    have hg : ∀ (p q : Pl) (k j : Nat), p ∈ L → q ∈ L → ∀ x ∈ O, gap x.1 (p, q) = gap x.1 (p.set row.1 k, q.set row.1 j) := fun p q k j hp hq x hx => by
      have e : x.1 ≠ row.1 := fun z => hn (z ▸ List.mem_map.mpr ⟨x, hx, rfl⟩)
      unfold gap
      show (p.getD x.1 0 : Int) - (q.getD x.1 0 : Int) = ((p.set row.1 k).getD x.1 0 : Int) - ((q.set row.1 j).getD x.1 0 : Int)
      rw [getD_set _ _ _ _ (hax p hp), getD_set _ _ _ _ (hax q hq), if_neg e, if_neg e]
    rw [List.pairwise_flatMap]
    refine ⟨fun p hp => ?_, ?_⟩
    · rw [List.pairwise_map]
      refine (pw_numsBy _ hw).imp fun {a b} h => right_snoc (fun x hx => ?_) ?_
      · rw [← hg p p b a hp hp x hx]
        show (p.getD x.1 0 : Int) - (p.getD x.1 0 : Int) = 0
        omega
      · show 0 < (((p.set row.1 b).getD row.1 0 : Int) - ((p.set row.1 a).getD row.1 0 : Int)) * row.2
        rw [getD_set _ _ _ _ (hax p hp), getD_set _ _ _ _ (hax p hp), if_pos rfl, if_pos rfl]
        exact h
    · refine I.pw.imp_of_mem fun {p q} hp hq h => ?_
      intro x hx y hy
      obtain ⟨a, _, rfl⟩ := List.mem_map.mp hx
      obtain ⟨b, _, rfl⟩ := List.mem_map.mp hy
      exact right_append (right_congr (hg q p b a hq hp) h)
theorem WInv.start (sz : List Nat) : WInv sz [] [List.replicate sz.length 0] := by
  constructor
  · intro p
    simp only [List.mem_singleton, List.map_nil, List.not_mem_nil, false_implies, not_false_eq_true, true_implies, true_and]
    constructor
    · rintro rfl
      refine ⟨by simp, fun i hi => ?_⟩
      rw [List.getD_eq_getElem?_getD]
      simp [hi]
    · rintro ⟨hl, hi⟩
      refine getD_ext (n := sz.length) hl (by simp) fun i h => ?_
      rw [hi i h, List.getD_eq_getElem?_getD]
      simp [h]
  · simp
theorem WInv.fold {sz : List Nat} : ∀ (R O : Ord) (L : List Pl), WInv sz O L → (∀ x ∈ R, x.1 < sz.length) → ((O ++ R).map (·.1)).Nodup → (∀ x ∈ R, x.2 = 1 ∨ x.2 = -1) → WInv sz (O ++ R) (R.foldl (stepW sz) L)
  | [], O, L, I, _, _, _ => by simpa using I
  | x :: R, O, L, I, h1, h2, h3 => by
    have e : O ++ x :: R = (O ++ [x]) ++ R := by simp
    rw [e] at h2 ⊢
    rw [List.foldl_cons]
    refine WInv.fold R (O ++ [x]) _ (I.step (h1 x List.mem_cons_self) ?_ (h3 x List.mem_cons_self)) (fun y hy => h1 y (List.mem_cons_of_mem _ hy)) h2 fun y hy => h3 y (List.mem_cons_of_mem _ hy)
    intro hm
    rw [List.map_append, List.map_append, List.append_assoc, List.nodup_append] at h2
    exact h2.2.2 _ hm x.1 (by simp) rfl
theorem walkF_inv {sz : List Nat} {O : Ord} (h : IsOrder sz.length O) : WInv sz O (walkF sz O) := by
  have := WInv.fold (sz := sz) O [] _ (WInv.start sz) h.lt (by simpa using h.nd) h.way
  unfold walkF
  simpa using this
theorem mem_walkF {sz : List Nat} {O : Ord} (h : IsOrder sz.length O) {p : Pl} : p ∈ walkF sz O ↔ IsPl sz p := by
  rw [(walkF_inv h).mem]
  constructor
  · rintro ⟨hl, hi⟩
    exact IsPl.mk hl fun i h1 => (hi i h1).1 (h.all i h1)
  · intro hp
    exact ⟨hp.len, fun i h1 => ⟨fun _ => hp.at i h1, fun z => absurd (h.all i h1) z⟩⟩
theorem nodup_walkF {sz : List Nat} {O : Ord} (h : IsOrder sz.length O) : (walkF sz O).Nodup :=
  (walkF_inv h).pw.imp fun {a b} hr e => by subst e; exact right_asymm _ _ _ hr hr
end PH

/-! The plain law, second part: copies in place by an order, bound pairs, all orders, the greedy order, bars. -/
namespace PH

/-! copies in place on labels -/
def heldStep (w r : Pl → Int) (h : Int → Option Int) (p : Pl) : Int → Option Int := fun x => if x = w p then some ((h (r p)).getD (r p)) else h x
def held (w r : Pl → Int) (L : List Pl) : Int → Option Int := L.foldl (heldStep w r) fun _ => none
theorem held_snoc (w r : Pl → Int) (L : List Pl) (p : Pl) : held w r (L ++ [p]) = heldStep w r (held w r L) p := by
  unfold held
  rw [List.foldl_append]
  rfl
def heldR (w r : Pl → Int) (M : List Pl) : Int → Option Int := M.foldr (fun p h => heldStep w r h p) fun _ => none
theorem heldR_none {w r : Pl → Int} {x : Int} : ∀ {M : List Pl}, (∀ p ∈ M, w p ≠ x) → heldR w r M x = none
  | [], _ => rfl
  | p :: M, h => by
    show (if x = w p then _ else heldR w r M x) = none
    rw [if_neg fun e => h p List.mem_cons_self e.symm]
    exact heldR_none fun q hq => h q (List.mem_cons_of_mem _ hq)
theorem heldR_ok {w r : Pl → Int} : ∀ {M : List Pl}, M.Nodup → (∀ p ∈ M, ∀ q ∈ M, w p = w q → p = q) → ((∀ p ∈ M, heldR w r M (w p) = some (r p)) ↔ M.Pairwise fun q p => w p = r q → r p = r q)
  | [], _, _ => by simp
  | q :: M, hn, hi => by
    have hn' := List.nodup_cons.mp hn
    have ih := heldR_ok (w := w) (r := r) (M := M) hn'.2 fun a ha b hb => hi a (List.mem_cons_of_mem _ ha) b (List.mem_cons_of_mem _ hb)
    rw [List.pairwise_cons, ← ih]
    have hold : ∀ p ∈ M, heldR w r (q :: M) (w p) = heldR w r M (w p) := fun p hp => by
      show (if w p = w q then _ else heldR w r M (w p)) = _
      rw [if_neg]
      intro e
      exact hn'.1 (hi p (List.mem_cons_of_mem _ hp) q List.mem_cons_self e ▸ hp)
    have hnew : heldR w r (q :: M) (w q) = some ((heldR w r M (r q)).getD (r q)) := by
      show (if w q = w q then some ((heldR w r M (r q)).getD (r q)) else heldR w r M (w q)) = _
      rw [if_pos rfl]
    constructor
    · intro h
      have h1 : ∀ p ∈ M, heldR w r M (w p) = some (r p) := fun p hp => by rw [← hold p hp]; exact h p (List.mem_cons_of_mem _ hp)
      refine ⟨fun p hp e => ?_, h1⟩
      have h2 := h q List.mem_cons_self
      rw [hnew, ← e, h1 p hp] at h2
      have h3 := Option.some.inj h2
      exact Eq.trans h3 e
    · rintro ⟨h1, h2⟩ p hp
      rcases List.mem_cons.mp hp with rfl | hp
      · rw [hnew]
        by_cases e : ∃ p' ∈ M, w p' = r p
        · obtain ⟨p', hp', e⟩ := e
          have e2 := h2 p' hp'
          rw [e] at e2
          rw [e2]
          exact congrArg some (h1 p' hp' e)
        · rw [heldR_none fun p' hp' z => e ⟨p', hp', z⟩]
          rfl
      · rw [hold p hp]
        exact h2 p hp
theorem held_ok {w r : Pl → Int} {L : List Pl} (hn : L.Nodup) (hi : ∀ p ∈ L, ∀ q ∈ L, w p = w q → p = q) : (∀ p ∈ L, held w r L (w p) = some (r p)) ↔ L.Pairwise fun p q => w p = r q → r p = r q := by
  have e : held w r L = heldR w r L.reverse := by
    unfold held heldR
    rw [List.foldl_eq_foldr_reverse]
  rw [e]
  have h := heldR_ok (w := w) (r := r) (M := L.reverse) (List.pairwise_reverse.mpr (hn.imp fun {a b} h => Ne.symm h)) fun p hp q hq => hi p (List.mem_reverse.mp hp) q (List.mem_reverse.mp hq)
  rw [List.pairwise_reverse] at h
  rw [← h]
  simp only [List.mem_reverse]

/-! bound pairs -/
structure IsB (sz : List Nat) (w r : Pl → Int) (B : List (Pl × Pl)) : Prop where
  mem : ∀ i j, (i, j) ∈ B ↔ IsPl sz i ∧ IsPl sz j ∧ i ≠ j ∧ w i = r j ∧ r i ≠ r j
def Kp (sz : List Nat) (w r : Pl → Int) (O : Ord) : Prop := (walkF sz O).Pairwise fun p q => w p = r q → r p = r q
theorem pw_mem {α : Type} {R : α → α → Prop} {a b : α} : ∀ {L : List α}, L.Pairwise R → a ∈ L → b ∈ L → a ≠ b → R a b ∨ R b a
  | [], _, ha, _, _ => by simp at ha
  | x :: L, h, ha, hb, hne => by
    have h' := List.pairwise_cons.mp h
    rcases List.mem_cons.mp ha with rfl | ha
    · rcases List.mem_cons.mp hb with rfl | hb
      · exact absurd rfl hne
      · exact .inl (h'.1 b hb)
    · rcases List.mem_cons.mp hb with e | hb
      · rw [e]
        exact .inr (h'.1 a ha)
      · exact pw_mem h'.2 ha hb hne
theorem keeps_iff {sz : List Nat} {w r : Pl → Int} {O : Ord} {B : List (Pl × Pl)} (hO : IsOrder sz.length O) (hB : IsB sz w r B) : Kp sz w r O ↔ ∀ pr ∈ B, right O pr := by
  have WI := walkF_inv hO
  constructor
  · rintro h ⟨i, j⟩ hp
    obtain ⟨hi, hj, hne, e1, e2⟩ := (hB.mem i j).mp hp
    rcases hO.total hi.len hj.len hne with t | t
    · exact t
    · exfalso
      rcases pw_mem (List.Pairwise.and h WI.pw) ((mem_walkF hO).mpr hi) ((mem_walkF hO).mpr hj) hne with k | k
      · exact e2 (k.1 e1)
      · exact right_asymm _ _ _ t k.2
  · intro h
    refine WI.pw.imp_of_mem fun {p q} hp hq hr e => ?_
    by_cases e2 : r p = r q
    · exact e2
    · exact (right_asymm _ _ _ hr (h (p, q) ((hB.mem p q).mpr ⟨(mem_walkF hO).mp hp, (mem_walkF hO).mp hq, fun z => e2 (by rw [z]), e, e2⟩))).elim

/-! all orders -/
def extO (n : Nat) (O : Ord) : List Ord := ((List.range n).filter fun a => !(O.map (·.1)).contains a).flatMap fun a => [O ++ [(a, 1)], O ++ [(a, -1)]]
def allO (n : Nat) : Nat → List Ord
  | 0 => [[]]
  | k + 1 => (allO n k).flatMap (extO n)
theorem mem_extO {n : Nat} {O O' : Ord} : O' ∈ extO n O ↔ ∃ a w, a < n ∧ a ∉ O.map (·.1) ∧ (w = 1 ∨ w = -1) ∧ O' = O ++ [(a, w)] := by
  unfold extO
  simp only [List.mem_flatMap, List.mem_filter, List.mem_range, List.mem_cons, List.not_mem_nil, or_false]
  constructor
  · rintro ⟨a, ⟨h1, h2⟩, h3⟩
    have h2' : a ∉ O.map (·.1) := by simpa using h2
    rcases h3 with rfl | rfl
    · exact ⟨a, 1, h1, h2', .inl rfl, rfl⟩
    · exact ⟨a, -1, h1, h2', .inr rfl, rfl⟩
  · rintro ⟨a, w, h1, h2, h3, rfl⟩
    refine ⟨a, ⟨h1, by simpa using h2⟩, ?_⟩
    rcases h3 with rfl | rfl
    · exact .inl rfl
    · exact .inr rfl
structure PreO (n k : Nat) (O : Ord) : Prop where
  nd : (O.map (·.1)).Nodup
  lt : ∀ x ∈ O, x.1 < n
  way : ∀ x ∈ O, x.2 = 1 ∨ x.2 = -1
  len : O.length = k
theorem PreO.order {n : Nat} {O : Ord} (h : PreO n n O) : IsOrder n O := ⟨h.nd, h.lt, h.way, h.len⟩
theorem IsOrder.pre {n : Nat} {O : Ord} (h : IsOrder n O) : PreO n n O := ⟨h.nd, h.lt, h.way, h.len⟩
theorem mem_allO {n : Nat} : ∀ {k : Nat} {O : Ord}, O ∈ allO n k ↔ PreO n k O
  | 0, O => by
    show O ∈ [[]] ↔ _
    constructor
    · intro h
      have e : O = [] := by simpa using h
      subst e
      exact ⟨by simp, by simp, by simp, rfl⟩
    · intro h
      have e : O = [] := List.length_eq_zero_iff.mp h.len
      simp [e]
  | k + 1, O => by
    show O ∈ (allO n k).flatMap (extO n) ↔ _
    rw [List.mem_flatMap]
    constructor
    · rintro ⟨P, hP, hO⟩
      have h := mem_allO.mp hP
      obtain ⟨a, w, h1, h2, h3, rfl⟩ := mem_extO.mp hO
      refine ⟨?_, fun x hx => ?_, fun x hx => ?_, ?_⟩
      · rw [List.map_append, List.nodup_append]
        refine ⟨h.nd, by simp, fun x hx y hy e => ?_⟩
        have ey : y = a := by simpa using hy
        rw [e, ey] at hx
        exact h2 hx
      · rcases List.mem_append.mp hx with hx | hx
        · exact h.lt x hx
        · have e : x = (a, w) := by simpa using hx
          rw [e]; exact h1
      · rcases List.mem_append.mp hx with hx | hx
        · exact h.way x hx
        · have e : x = (a, w) := by simpa using hx
          rw [e]; exact h3
      · rw [List.length_append, h.len]; rfl
    · intro h
      have hne : O ≠ [] := fun e => by have := h.len; rw [e] at this; simp at this
      have e : O = O.dropLast ++ [O.getLast hne] := (List.dropLast_concat_getLast hne).symm
      have hl := List.getLast_mem hne
      have hs : ∀ x ∈ O.dropLast, x ∈ O := fun x hx => List.dropLast_subset _ hx
      have hnd := h.nd
      rw [e, List.map_append, List.nodup_append] at hnd
      refine ⟨O.dropLast, mem_allO.mpr ⟨hnd.1, fun x hx => h.lt x (hs x hx), fun x hx => h.way x (hs x hx), by rw [List.length_dropLast, h.len]; rfl⟩, mem_extO.mpr ⟨(O.getLast hne).1, (O.getLast hne).2, h.lt _ hl, fun hm => ?_, h.way _ hl, e⟩⟩
      exact hnd.2.2 _ hm (O.getLast hne).1 (by simp) rfl
theorem len_extO (n : Nat) (O : Ord) : (extO n O).length ≤ 2 * n := by
  unfold extO
  rw [len_flatMap _ 2 _ fun a _ => rfl]
  have := List.length_filter_le (fun a => !(O.map (·.1)).contains a) (List.range n)
  rw [List.length_range] at this
  omega
theorem len_allO {n : Nat} (hn : n ≤ 3) : ∀ k, (allO n k).length ≤ 6 ^ k
  | 0 => Nat.le_refl _
  | k + 1 => by
    have ih := len_allO hn k
    show ((allO n k).flatMap (extO n)).length ≤ _
    have : ∀ l : List Ord, (l.flatMap (extO n)).length ≤ l.length * 6 := fun l => by
      induction l with
      | nil => simp
      | cons a l ihl =>
        rw [List.flatMap_cons, List.length_append, List.length_cons, Nat.succ_mul]
        have := len_extO n a
        omega
    have := this (allO n k)
    rw [Nat.pow_succ]
    omega

/-! the greedy order -/
abbrev PP := Pl × Pl
def wayF (left : List PP) (a : Nat) : Int :=
  if (left.all fun pr => decide (0 ≤ gap a pr)) && (left.any fun pr => decide (0 < gap a pr)) then 1
  else if (left.all fun pr => decide (gap a pr ≤ 0)) && (left.any fun pr => decide (gap a pr < 0)) then -1 else 0
def AllZero (left : List PP) (a : Nat) : Prop := ∀ pr ∈ left, gap a pr = 0
def Mixed (left : List PP) (a : Nat) : Prop := (∃ pr ∈ left, 0 < gap a pr) ∧ ∃ pr ∈ left, gap a pr < 0
theorem wayF_pos {left : List PP} {a : Nat} (h1 : ∀ pr ∈ left, 0 ≤ gap a pr) (h2 : ∃ pr ∈ left, 0 < gap a pr) : wayF left a = 1 := by
  unfold wayF
  rw [if_pos]
  simp only [Bool.and_eq_true, List.all_eq_true, List.any_eq_true, decide_eq_true_eq]
  exact ⟨h1, h2⟩
theorem wayF_neg {left : List PP} {a : Nat} (h1 : ∀ pr ∈ left, gap a pr ≤ 0) (h2 : ∃ pr ∈ left, gap a pr < 0) : wayF left a = -1 := by
  unfold wayF
  rw [if_neg, if_pos]
  · simp only [Bool.and_eq_true, List.all_eq_true, List.any_eq_true, decide_eq_true_eq]
    exact ⟨h1, h2⟩
  · simp only [Bool.and_eq_true, List.all_eq_true, List.any_eq_true, decide_eq_true_eq]
    rintro ⟨h3, _⟩
    obtain ⟨pr, hp, h⟩ := h2
    have := h3 pr hp
    omega
theorem wayF_zero {left : List PP} {a : Nat} (h : AllZero left a ∨ Mixed left a) : wayF left a = 0 := by
  unfold wayF
  rw [if_neg, if_neg]
  all_goals
    simp only [Bool.and_eq_true, List.all_eq_true, List.any_eq_true, decide_eq_true_eq]
    rintro ⟨h1, pr, hp, h2⟩
    rcases h with h | ⟨⟨p1, q1, g1⟩, p2, q2, g2⟩
    · have := h pr hp; omega
    · have := h1 p1 q1; have := h1 p2 q2; omega
theorem way_cases (left : List PP) (a : Nat) : ((∀ pr ∈ left, 0 ≤ gap a pr) ∧ ∃ pr ∈ left, 0 < gap a pr) ∨ ((∀ pr ∈ left, gap a pr ≤ 0) ∧ ∃ pr ∈ left, gap a pr < 0) ∨ AllZero left a ∨ Mixed left a := by
  by_cases h1 : ∃ pr ∈ left, 0 < gap a pr
  · by_cases h2 : ∃ pr ∈ left, gap a pr < 0
    · exact .inr (.inr (.inr ⟨h1, h2⟩))
    · exact .inl ⟨fun pr hp => by by_cases h : gap a pr < 0; exact absurd ⟨pr, hp, h⟩ h2; omega, h1⟩
  · by_cases h2 : ∃ pr ∈ left, gap a pr < 0
    · exact .inr (.inl ⟨fun pr hp => by by_cases h : 0 < gap a pr; exact absurd ⟨pr, hp, h⟩ h1; omega, h2⟩)
    · refine .inr (.inr (.inl fun pr hp => ?_))
      by_cases h : 0 < gap a pr
      · exact absurd ⟨pr, hp, h⟩ h1
      · by_cases h' : gap a pr < 0
        · exact absurd ⟨pr, hp, h'⟩ h2
        · omega
theorem way_of_zero {left : List PP} {a : Nat} (h : wayF left a = 0) : AllZero left a ∨ Mixed left a := by
  rcases way_cases left a with ⟨h1, h2⟩ | ⟨h1, h2⟩ | h' 
  · rw [wayF_pos h1 h2] at h; omega
  · rw [wayF_neg h1 h2] at h; omega
  · exact h'
structure GInv (n : Nat) (B : List PP) (O : Ord) (left : List PP) : Prop where
  sub : ∀ pr ∈ left, pr ∈ B
  zero : ∀ pr ∈ left, ∀ x ∈ O, gap x.1 pr = 0
  done : ∀ pr ∈ B, right O pr ∨ pr ∈ left
  nd : (O.map (·.1)).Nodup
  lt : ∀ x ∈ O, x.1 < n
  way : ∀ x ∈ O, x.2 = 1 ∨ x.2 = -1
theorem GInv.start (n : Nat) (B : List PP) : GInv n B [] B := ⟨fun _ h => h, fun _ _ _ h => by simp at h, fun _ h => .inr h, by simp, by simp, by simp⟩
def thin (left : List PP) (a : Nat) : List PP := left.filter fun pr => decide (pr.1.getD a 0 = pr.2.getD a 0)
theorem mem_thin {left : List PP} {a : Nat} {pr : PP} : pr ∈ thin left a ↔ pr ∈ left ∧ gap a pr = 0 := by
  unfold thin gap
  rw [List.mem_filter, decide_eq_true_eq]
  constructor
  · rintro ⟨h1, h2⟩; exact ⟨h1, by omega⟩
  · rintro ⟨h1, h2⟩; exact ⟨h1, by omega⟩
theorem filter_lt {α : Type} {p : α → Bool} {x : α} : ∀ {l : List α}, x ∈ l → p x = false → (l.filter p).length < l.length
  | [], h, _ => by simp at h
  | y :: l, h, e => by
    rcases List.mem_cons.mp h with rfl | h
    · rw [List.filter_cons_of_neg (by simp [e]), List.length_cons]
      have := List.length_filter_le p l
      omega
    · have := filter_lt (p := p) h e
      rw [List.filter_cons, List.length_cons]
      split
      · rw [List.length_cons]; omega
      · omega
theorem GInv.step {n : Nat} {B : List PP} {O : Ord} {left : List PP} {a : Nat} (I : GInv n B O left) (ha : a < n) (hw : wayF left a ≠ 0) : GInv n B (O ++ [(a, wayF left a)]) (thin left a) ∧ (thin left a).length < left.length := by
  have key : (∀ pr ∈ left, gap a pr = 0 ∨ 0 < gap a pr * wayF left a) ∧ (∃ pr ∈ left, gap a pr ≠ 0) ∧ (wayF left a = 1 ∨ wayF left a = -1) := by
    rcases way_cases left a with ⟨h1, h2⟩ | ⟨h1, h2⟩ | h'
    · rw [wayF_pos h1 h2]
      refine ⟨fun pr hp => ?_, ?_, .inl rfl⟩
      · have := h1 pr hp; rw [Int.mul_one]; omega
      · obtain ⟨pr, hp, h⟩ := h2; exact ⟨pr, hp, by omega⟩
    · rw [wayF_neg h1 h2]
      refine ⟨fun pr hp => ?_, ?_, .inr rfl⟩
      · have := h1 pr hp; rw [Int.mul_neg, Int.mul_one]; omega
      · obtain ⟨pr, hp, h⟩ := h2; exact ⟨pr, hp, by omega⟩
    · exact absurd (wayF_zero h') hw
  obtain ⟨k1, ⟨p0, hp0, g0⟩, k3⟩ := key
  have hna : a ∉ O.map (·.1) := fun hm => by
    obtain ⟨x, hx, e⟩ := List.mem_map.mp hm
    exact g0 (by rw [← e]; exact I.zero p0 hp0 x hx)
  refine ⟨⟨fun pr h => I.sub pr (mem_thin.mp h).1, fun pr h x hx => ?_, fun pr h => ?_, ?_, fun x hx => ?_, fun x hx => ?_⟩, ?_⟩
  · rcases List.mem_append.mp hx with hx | hx
    · exact I.zero pr (mem_thin.mp h).1 x hx
    · have e : x = (a, wayF left a) := by simpa using hx
      rw [e]; exact (mem_thin.mp h).2
  · rcases I.done pr h with k | k
    · exact .inl (right_append k)
    · rcases k1 pr k with z | z
      · exact .inr (mem_thin.mpr ⟨k, z⟩)
      · exact .inl (right_snoc (I.zero pr k) z)
  · rw [List.map_append, List.nodup_append]
    refine ⟨I.nd, by simp, fun x hx y hy e => ?_⟩
    have ey : y = a := by simpa using hy
    rw [e, ey] at hx
    exact hna hx
  · rcases List.mem_append.mp hx with hx | hx
    · exact I.lt x hx
    · have e : x = (a, wayF left a) := by simpa using hx
      rw [e]; exact ha
  · rcases List.mem_append.mp hx with hx | hx
    · exact I.way x hx
    · have e : x = (a, wayF left a) := by simpa using hx
      rw [e]; exact k3
  · refine filter_lt hp0 ?_
    rw [decide_eq_false_iff_not]
    intro e
    exact g0 (by unfold gap; omega)
def restO (n : Nat) (O : Ord) : Ord := ((List.range n).filter fun a => !(O.map (·.1)).contains a).map fun a => (a, 1)
theorem GInv.finish {n : Nat} {B : List PP} {O : Ord} (I : GInv n B O []) : ∃ O', IsOrder n O' ∧ ∀ pr ∈ B, right O' pr := by
  refine ⟨O ++ restO n O, ?_, fun pr h => (I.done pr h).elim right_append fun z => by simp at z⟩
  have hr : ∀ x, x ∈ restO n O ↔ x.1 < n ∧ x.1 ∉ O.map (·.1) ∧ x.2 = 1 := fun x => by
    unfold restO
    simp only [List.mem_map, List.mem_filter, List.mem_range]
    constructor
    · rintro ⟨a, ⟨h1, h2⟩, rfl⟩
      exact ⟨h1, by simpa using h2, rfl⟩
    · rintro ⟨h1, h2, h3⟩
      exact ⟨x.1, ⟨h1, by simpa using h2⟩, by rw [← h3]⟩
  have hrm : (restO n O).map (·.1) = (List.range n).filter fun a => !(O.map (·.1)).contains a := by
    unfold restO
    rw [List.map_map]
    exact List.map_id _
  have nd : ((O ++ restO n O).map (·.1)).Nodup := by
    rw [List.map_append, List.nodup_append]
    refine ⟨I.nd, ?_, fun x hx y hy e => ?_⟩
    · rw [hrm]
      exact List.nodup_range.filter _
    · obtain ⟨z, hz, ez⟩ := List.mem_map.mp hy
      rw [e, ← ez] at hx
      exact ((hr z).mp hz).2.1 hx
  have lt : ∀ x ∈ O ++ restO n O, x.1 < n := fun x hx => by
    rcases List.mem_append.mp hx with hx | hx
    · exact I.lt x hx
    · exact ((hr x).mp hx).1
  refine ⟨nd, lt, fun x hx => ?_, ?_⟩
  · rcases List.mem_append.mp hx with hx | hx
    · exact I.way x hx
    · exact .inl ((hr x).mp hx).2.2
  · have h1 := (nodup_small n _ nd fun a ha => by
      obtain ⟨x, hx, e⟩ := List.mem_map.mp ha
      rw [← e]; exact lt x hx).1
    have h2 := nodup_sub (List.range n) ((O ++ restO n O).map (·.1)) List.nodup_range fun a ha => by
      by_cases hm : a ∈ O.map (·.1)
      · rw [List.map_append]
        exact List.mem_append_left _ hm
      · rw [List.map_append]
        exact List.mem_append_right _ (List.mem_map.mpr ⟨(a, 1), (hr (a, 1)).mpr ⟨List.mem_range.mp ha, hm, rfl⟩, rfl⟩)
    rw [List.length_range, List.length_map] at h2
    rw [List.length_map] at h1
    omega
theorem no_right {n : Nat} {left : List PP} (hne : left ≠ []) (hz : ∀ a, a < n → wayF left a = 0) : ∀ (O : Ord), (∀ x ∈ O, x.1 < n) → (∀ x ∈ O, x.2 = 1 ∨ x.2 = -1) → (∀ pr ∈ left, right O pr) → False
  | [], _, _, h => by
    obtain ⟨pr, hp⟩ := List.exists_mem_of_ne_nil _ hne
    exact h pr hp
  | x :: O, h1, h2, h => by
    rcases way_of_zero (hz x.1 (h1 x List.mem_cons_self)) with k | ⟨⟨p1, q1, g1⟩, p2, q2, g2⟩
    · refine no_right hne hz O (fun y hy => h1 y (List.mem_cons_of_mem _ hy)) (fun y hy => h2 y (List.mem_cons_of_mem _ hy)) fun pr hp => ?_
      rcases h pr hp with z | z
      · rw [k pr hp] at z; simp at z
      · exact z.2
    · have a1 := h p1 q1
      have a2 := h p2 q2
      unfold right at a1 a2
      rcases h2 x List.mem_cons_self with e | e
      · rw [e, Int.mul_one] at a2
        omega
      · rw [e, Int.mul_neg, Int.mul_one] at a1
        omega
theorem GInv.stuck {n : Nat} {B : List PP} {O : Ord} {left : List PP} (I : GInv n B O left) (hne : left ≠ []) (hz : ∀ a, a < n → wayF left a = 0) (O' : Ord) (hO : IsOrder n O') : ¬ ∀ pr ∈ B, right O' pr :=
  fun h => no_right hne hz O' hO.lt hO.way fun pr hp => h pr (I.sub pr hp)

/-! what is told with none -/
structure BarOk (n : Nat) (left S : List PP) : Prop where
  sub : ∀ pr ∈ S, pr ∈ left
  mix : ∀ a, a < n → AllZero left a ∨ Mixed S a
theorem BarOk.ne {n : Nat} {left S : List PP} (h : BarOk n left S) (hne : left ≠ []) (hg : ∀ pr ∈ left, ∃ a, a < n ∧ gap a pr ≠ 0) : S ≠ [] := by
  obtain ⟨pr, hp⟩ := List.exists_mem_of_ne_nil _ hne
  obtain ⟨a, ha, g⟩ := hg pr hp
  rcases h.mix a ha with k | ⟨⟨p, hp, _⟩, _⟩
  · exact absurd (k pr hp) g
  · exact List.ne_nil_of_mem hp
end PH

/-! The plain law, third part: paces by mixed radix (each cell once), least and greatest cells, views so many times as great. -/
namespace PH

structure SzOk (sz : List Nat) : Prop where
  len : sz.length ≤ 3
  bd : ∀ s ∈ sz, 1 ≤ s ∧ s ≤ 6
theorem prod_le : ∀ {sz : List Nat}, (∀ s ∈ sz, 1 ≤ s ∧ s ≤ 6) → 1 ≤ prod sz ∧ prod sz ≤ 6 ^ sz.length
  | [], _ => ⟨Nat.le_refl _, Nat.le_refl _⟩
  | s :: r, h => by
    have ih := prod_le (sz := r) fun x hx => h x (List.mem_cons_of_mem _ hx)
    have hs := h s List.mem_cons_self
    refine ⟨Nat.mul_pos hs.1 ih.1, ?_⟩
    show s * prod r ≤ 6 ^ (r.length + 1)
    rw [Nat.pow_succ, Nat.mul_comm]
    exact Nat.mul_le_mul ih.2 hs.2
theorem SzOk.prod {sz : List Nat} (h : SzOk sz) : prod sz ≤ 216 := by
  have h1 := (prod_le h.bd).2
  have h2 : 6 ^ sz.length ≤ 6 ^ 3 := Nat.pow_le_pow_right (by decide) h.len
  have h3 : 6 ^ 3 = 216 := rfl
  omega

/-! sums -/
def dotI : List Int → List Int → Int
  | d :: ds, c :: cs => d * c + dotI ds cs
  | _, _ => 0
def wsum : List Nat → List Int → Int
  | s :: r, c :: cs => (c.natAbs : Int) * ((s : Int) - 1) + wsum r cs
  | _, _ => 0
theorem dotI_set : ∀ (d ps : List Int) (ax : Nat) (v : Int), ax < ps.length → d.length = ps.length → dotI d (ps.set ax v) = dotI d ps + d.getD ax 0 * (v - ps.getD ax 0)
  | [], c :: cs, ax, v, h, e => by simp at e
  | d, [], ax, v, h, e => by simp at h
  | d :: ds, c :: cs, 0, v, h, e => by
    simp only [List.set_cons_zero, dotI, List.getD_cons_zero, Int.mul_sub]
    omega
  | d :: ds, c :: cs, ax + 1, v, h, e => by
    have ih := dotI_set ds cs ax v (by simpa using h) (by simpa using e)
    simp only [List.set_cons_succ, dotI, List.getD_cons_succ]
    rw [ih]
    omega
theorem wsum_set : ∀ (sz : List Nat) (ps : List Int) (ax : Nat) (v : Int), ax < ps.length → sz.length = ps.length → wsum sz (ps.set ax v) = wsum sz ps + ((v.natAbs : Int) - ((ps.getD ax 0).natAbs : Int)) * ((sz.getD ax 0 : Int) - 1)
  | [], c :: cs, ax, v, h, e => by simp at e
  | d, [], ax, v, h, e => by simp at h
  | d :: ds, c :: cs, 0, v, h, e => by
    simp only [List.set_cons_zero, wsum, List.getD_cons_zero, Int.sub_mul]
    omega
  | d :: ds, c :: cs, ax + 1, v, h, e => by
    have ih := wsum_set ds cs ax v (by simpa using h) (by simpa using e)
    simp only [List.set_cons_succ, wsum, List.getD_cons_succ]
    rw [ih]
    omega
theorem wsum_nonneg : ∀ (sz : List Nat) (ps : List Int), (∀ s ∈ sz, 1 ≤ s) → 0 ≤ wsum sz ps
  | [], _, _ => by simp [wsum]
  | _ :: _, [], _ => by simp [wsum]
  | s :: r, c :: cs, h => by
    have ih := wsum_nonneg r cs fun x hx => h x (List.mem_cons_of_mem _ hx)
    have hs := h s List.mem_cons_self
    have := Int.mul_nonneg (a := (c.natAbs : Int)) (b := (s : Int) - 1) (by omega) (by omega)
    show 0 ≤ (c.natAbs : Int) * ((s : Int) - 1) + wsum r cs
    omega
theorem dotI_le : ∀ (sz : List Nat) (d ps : List Int), d.length = sz.length → (∀ a, a < sz.length → (d.getD a 0).natAbs < sz.getD a 0) → ((dotI d ps).natAbs : Int) ≤ wsum sz ps
  | [], [], _, _, _ => by simp [dotI, wsum]
  | [], _ :: _, _, h, _ => by simp at h
  | _ :: _, [], _, h, _ => by simp at h
  | s :: r, d :: ds, [], _, _ => by simp [dotI, wsum]
  | s :: r, d :: ds, c :: cs, hl, h => by
    have ih := dotI_le r ds cs (by simpa using hl) fun a ha => by
      have := h (a + 1) (by simpa using ha)
      simpa using this
    have h0 : d.natAbs < s := by
      have := h 0 (by simp)
      simpa using this
    have e1 : (d * c).natAbs = d.natAbs * c.natAbs := Int.natAbs_mul d c
    have e2 : c.natAbs * d.natAbs ≤ c.natAbs * (s - 1) := Nat.mul_le_mul_left _ (by omega)
    have e3 : ((c.natAbs * (s - 1) : Nat) : Int) = (c.natAbs : Int) * ((s : Int) - 1) := by
      rw [Int.natCast_mul]
      congr 1
      omega
    have e4 := Int.natAbs_add_le (d * c) (dotI ds cs)
    show (((d * c + dotI ds cs).natAbs : Nat) : Int) ≤ (c.natAbs : Int) * ((s : Int) - 1) + wsum r cs
    rw [← e3]
    rw [Nat.mul_comm] at e2
    omega

/-! each cell once -/
def Inj (sz : List Nat) (ps : List Int) (left : List Nat) : Prop :=
  ∀ d : List Int, d.length = sz.length → (∀ a, a < sz.length → (d.getD a 0).natAbs < sz.getD a 0) → dotI d ps = 0 → ∀ a, a < sz.length → a ∉ left → d.getD a 0 = 0
def ubd : Nat → Int
  | 0 => 2
  | 1 => 13
  | 2 => 79
  | _ => 475
structure OInv (sz : List Nat) (left : List Nat) (ps : List Int) (unit : Int) : Prop where
  len : ps.length = sz.length
  lt : ∀ a ∈ left, a < sz.length
  nd : left.Nodup
  zero : ∀ a ∈ left, ps.getD a 0 = 0
  w : wsum sz ps < unit
  inj : Inj sz ps left
  bd : ∀ c ∈ ps, c.natAbs ≤ 79
  ll : left.length ≤ sz.length
  ub : unit ≤ ubd (sz.length - left.length)
theorem OInv.start {sz : List Nat} {u : Int} (h1 : 1 ≤ u) (h2 : u ≤ 2) : OInv sz (List.range sz.length) (List.replicate sz.length 0) u := by
  have hz : ∀ (sz : List Nat) (n : Nat), wsum sz (List.replicate n 0) = 0 := fun sz => by
    induction sz with
    | nil => intro n; rfl
    | cons s r ih =>
      intro n
      cases n with
      | zero => rfl
      | succ n =>
        show ((0 : Int).natAbs : Int) * ((s : Int) - 1) + wsum r (List.replicate n 0) = 0
        rw [ih]
        simp
  refine ⟨by simp, fun a h => List.mem_range.mp h, List.nodup_range, fun a h => ?_, by rw [hz]; omega, fun d _ _ _ a ha h => absurd (List.mem_range.mpr ha) h, fun c h => ?_, by simp, ?_⟩
  · rw [List.getD_eq_getElem?_getD]
    have := List.mem_range.mp h
    simp [this]
  · rw [(List.mem_replicate.mp h).2]
    decide
  · rw [List.length_range, Nat.sub_self]
    exact h2
theorem eraseIdx_facts {l : List Nat} {j ax : Nat} (hn : l.Nodup) (hj : l[j]? = some ax) : (l.eraseIdx j).Nodup ∧ (∀ a, a ∈ l.eraseIdx j ↔ a ∈ l ∧ a ≠ ax) ∧ (l.eraseIdx j).length + 1 = l.length := by
  obtain ⟨hlt, e⟩ := List.getElem?_eq_some_iff.mp hj
  have el : l = l.take j ++ ax :: l.drop (j + 1) := by
    rw [← e, List.getElem_cons_drop, List.take_append_drop]
  rw [List.eraseIdx_eq_take_drop_succ]
  generalize l.take j = t at el
  generalize l.drop (j + 1) = u at el
  subst el
  have h1 := List.nodup_append.mp hn
  have h2 := List.nodup_cons.mp h1.2.1
  refine ⟨List.nodup_append.mpr ⟨h1.1, h2.2, fun a ha b hb => h1.2.2 a ha b (List.mem_cons_of_mem _ hb)⟩, fun a => ?_, by simp; omega⟩
  simp only [List.mem_append, List.mem_cons]
  constructor
  · rintro (h | h)
    · exact ⟨.inl h, h1.2.2 a h ax List.mem_cons_self⟩
    · exact ⟨.inr (.inr h), fun z => h2.1 (z ▸ h)⟩
  · rintro ⟨h | h | h, hne⟩
    · exact .inl h
    · exact absurd h hne
    · exact .inr h
theorem mem_getD {α : Type} {l : List α} {a : Nat} {z : α} (h : a < l.length) : l.getD a z ∈ l := by
  rw [List.getD_eq_getElem?_getD, List.getElem?_eq_getElem h]
  exact List.getElem_mem h
theorem OInv.step {sz left : List Nat} {ps : List Int} {unit s e : Int} {j ax : Nat} (hsz : SzOk sz) (I : OInv sz left ps unit) (hj : left[j]? = some ax) (hs : s = 1 ∨ s = -1) (he : 0 ≤ e ∧ e ≤ 1) :
    OInv sz (left.eraseIdx j) (ps.set ax (unit * s)) (unit * (sz.getD ax 0 : Int) + e) := by
  obtain ⟨f1, f2, f3⟩ := eraseIdx_facts I.nd hj
  have hmem : ax ∈ left := List.mem_of_getElem? hj
  have hax : ax < sz.length := I.lt ax hmem
  have haxp : ax < ps.length := by rw [I.len]; exact hax
  have hz := I.zero ax hmem
  have hw0 := wsum_nonneg sz ps fun s h => (hsz.bd s h).1
  have hpos : 0 < unit := by have := I.w; omega
  have hsa : (unit * s).natAbs = unit.natAbs := by
    rw [Int.natAbs_mul]
    rcases hs with rfl | rfl <;> simp
  have hua : (unit.natAbs : Int) = unit := by omega
  have hsb := hsz.bd _ (mem_getD (z := 0) hax)
  have hk : sz.length - (left.eraseIdx j).length = sz.length - left.length + 1 := by have := I.ll; omega
  refine ⟨by rw [List.length_set]; exact I.len, fun a h => I.lt a ((f2 a).mp h).1, f1, fun a h => ?_, ?_, fun d hd hb h0 a ha hm => ?_, fun c hc => ?_, by have := I.ll; omega, ?_⟩
  · have h' := (f2 a).mp h
    rw [List.getD_eq_getElem?_getD, List.getElem?_set, if_neg (fun z => h'.2 z.symm), ← List.getD_eq_getElem?_getD]
    exact I.zero a h'.1
  · rw [wsum_set _ _ _ _ haxp I.len.symm, hz, hsa, hua]
    have := I.w
    show wsum sz ps + (unit - ((0 : Int).natAbs : Int)) * ((sz.getD ax 0 : Int) - 1) < _
    rw [show ((0 : Int).natAbs : Int) = 0 from rfl, Int.sub_zero, Int.mul_sub, Int.mul_one]
    omega
  · have hdl : d.length = ps.length := by rw [I.len]; exact hd
    rw [dotI_set _ _ _ _ haxp hdl, hz, Int.sub_zero] at h0
    have hle := dotI_le sz d ps hd hb
    have hdax : d.getD ax 0 = 0 := by
      by_cases hq : d.getD ax 0 = 0
      · exact hq
      · exfalso
        have e1 : dotI d ps = -(d.getD ax 0 * (unit * s)) := by omega
        have e2 : (dotI d ps).natAbs = (d.getD ax 0).natAbs * unit.natAbs := by rw [e1, Int.natAbs_neg, Int.natAbs_mul, hsa]
        have e3 : unit.natAbs ≤ (d.getD ax 0).natAbs * unit.natAbs := Nat.le_mul_of_pos_left _ (by omega)
        have := I.w
        omega
    by_cases ea : a = ax
    · rw [ea]; exact hdax
    · rw [hdax, Int.zero_mul, Int.add_zero] at h0
      exact I.inj d hd hb h0 a ha fun h => hm ((f2 a).mpr ⟨h, ea⟩)
  · rcases List.mem_or_eq_of_mem_set hc with h | h
    · exact I.bd c h
    · rw [h, hsa]
      have h3 := hsz.len
      have hb := I.ub
      have hl : 1 ≤ left.length := List.length_pos_of_mem hmem
      have : sz.length - left.length = 0 ∨ sz.length - left.length = 1 ∨ sz.length - left.length = 2 := by omega
      rcases this with z | z | z <;> rw [z] at hb <;> unfold ubd at hb <;> simp at hb <;> omega
  · rw [hk]
    have h3 := hsz.len
    have hb := I.ub
    have hl : 1 ≤ left.length := List.length_pos_of_mem hmem
    have hm : unit * (sz.getD ax 0 : Int) ≤ unit * 6 := Int.mul_le_mul_of_nonneg_left (by omega) (by omega)
    have : sz.length - left.length = 0 ∨ sz.length - left.length = 1 ∨ sz.length - left.length = 2 := by omega
    generalize unit * (sz.getD ax 0 : Int) = m at hm ⊢
    rcases this with z | z | z <;> rw [z] at hb ⊢ <;> unfold ubd at hb ⊢ <;> simp at hb ⊢ <;> omega
def subP : Pl → Pl → List Int
  | a :: p, b :: q => ((a : Int) - (b : Int)) :: subP p q
  | _, _ => []
theorem subP_len : ∀ {p q : Pl}, p.length = q.length → (subP p q).length = p.length
  | [], _, _ => rfl
  | a :: p, b :: q, h => by
    show (subP p q).length + 1 = p.length + 1
    rw [subP_len (by simpa using h)]
  | _ :: _, [], h => by simp at h
theorem subP_get : ∀ {p q : Pl} (i : Nat), p.length = q.length → (subP p q).getD i 0 = (p.getD i 0 : Int) - (q.getD i 0 : Int)
  | [], [], i, _ => by simp [subP]
  | [], _ :: _, _, h => by simp at h
  | a :: p, b :: q, 0, h => by simp [subP]
  | a :: p, b :: q, i + 1, h => by
    have := subP_get (p := p) (q := q) i (by simpa using h)
    show (subP p q).getD i 0 = (p.getD i 0 : Int) - (q.getD i 0 : Int)
    exact this
  | _ :: _, [], _, h => by simp at h
theorem dot_sub : ∀ {p q : Pl} (ps : List Int), p.length = q.length → dotI (subP p q) ps = dot p ps - dot q ps
  | [], [], _, _ => by simp [subP, dotI, dot]
  | [], _ :: _, _, h => by simp at h
  | a :: p, b :: q, [], h => by simp [subP, dotI, dot]
  | a :: p, b :: q, c :: cs, h => by
    show ((a : Int) - (b : Int)) * c + dotI (subP p q) cs = ((a : Int) * c + dot p cs) - ((b : Int) * c + dot q cs)
    rw [dot_sub cs (by simpa using h), Int.sub_mul]
    omega
  | _ :: _, [], _, h => by simp at h
theorem OInv.once {sz : List Nat} {ps : List Int} {unit : Int} (I : OInv sz [] ps unit) {p q : Pl} (hp : IsPl sz p) (hq : IsPl sz q) (e : dot p ps = dot q ps) : p = q := by
  have hl : p.length = q.length := by rw [hp.len, hq.len]
  have h := I.inj (subP p q) (by rw [subP_len hl, hp.len]) (fun a ha => by
    rw [subP_get a hl]
    have h1 := hp.at a ha
    have h2 := hq.at a ha
    omega) (by rw [dot_sub ps hl]; omega)
  refine getD_ext hp.len hq.len fun i hi => ?_
  have := h i hi (by simp)
  rw [subP_get i hl] at this
  omega

/-! least and greatest cells -/
def lo1 (x : Int) : Int := if x < 0 then x else 0
def hi1 (x : Int) : Int := if x > 0 then x else 0
def lowL (axes : List (Nat × Int)) : List Int := axes.map fun a => lo1 (a.2 * ((a.1 : Int) - 1))
def highL (axes : List (Nat × Int)) : List Int := axes.map fun a => hi1 (a.2 * ((a.1 : Int) - 1))
def lowF (axes : List (Nat × Int)) : Int := (lowL axes).sum
def highF (axes : List (Nat × Int)) : Int := (highL axes).sum
def keptF (axes : List (Nat × Int)) : List (Nat × Int) := axes.map fun a => if a.1 = 1 then (1, 0) else a
theorem lowL_kept (axes : List (Nat × Int)) : lowL (keptF axes) = lowL axes := by
  unfold lowL keptF
  rw [List.map_map]
  refine List.map_congr_left fun a _ => ?_
  show lo1 ((if a.1 = 1 then ((1, 0) : Nat × Int) else a).2 * (((if a.1 = 1 then ((1, 0) : Nat × Int) else a).1 : Int) - 1)) = _
  by_cases h : a.1 = 1
  · rw [if_pos h, h]; simp
  · rw [if_neg h]
theorem highL_kept (axes : List (Nat × Int)) : highL (keptF axes) = highL axes := by
  unfold highL keptF
  rw [List.map_map]
  refine List.map_congr_left fun a _ => ?_
  show hi1 ((if a.1 = 1 then ((1, 0) : Nat × Int) else a).2 * (((if a.1 = 1 then ((1, 0) : Nat × Int) else a).1 : Int) - 1)) = _
  by_cases h : a.1 = 1
  · rw [if_pos h, h]; simp
  · rw [if_neg h]
theorem sizes_kept (axes : List (Nat × Int)) : (keptF axes).map (·.1) = axes.map (·.1) := by
  unfold keptF
  rw [List.map_map]
  refine List.map_congr_left fun a _ => ?_
  show (if a.1 = 1 then ((1, 0) : Nat × Int) else a).1 = a.1
  by_cases h : a.1 = 1
  · rw [if_pos h, h]
  · rw [if_neg h]
theorem dot_kept : ∀ (axes : List (Nat × Int)) (p : Pl), IsPl (axes.map (·.1)) p → dot p ((keptF axes).map (·.2)) = dot p (axes.map (·.2))
  | [], _, _ => rfl
  | a :: r, [], h => h.elim
  | a :: r, k :: p, h => by
    have ih := dot_kept r p h.2
    show (k : Int) * (if a.1 = 1 then ((1, 0) : Nat × Int) else a).2 + dot p ((keptF r).map (·.2)) = (k : Int) * a.2 + dot p (r.map (·.2))
    rw [ih]
    by_cases e : a.1 = 1
    · have hk : k < a.1 := h.1
      have : k = 0 := by omega
      rw [this]; simp
    · rw [if_neg e]
theorem kept_kept (axes : List (Nat × Int)) : keptF (keptF axes) = keptF axes := by
  unfold keptF
  rw [List.map_map]
  refine List.map_congr_left fun a _ => ?_
  show (if (if a.1 = 1 then ((1, 0) : Nat × Int) else a).1 = 1 then ((1, 0) : Nat × Int) else (if a.1 = 1 then ((1, 0) : Nat × Int) else a)) = _
  by_cases h : a.1 = 1
  · rw [if_pos h]; rfl
  · rw [if_neg h, if_neg h]
structure AxOk (axes : List (Nat × Int)) : Prop where
  len : axes.length ≤ 3
  sz : ∀ a ∈ axes, 1 ≤ a.1 ∧ a.1 ≤ 6
  pc : ∀ a ∈ axes, a.2.natAbs ≤ 81
theorem mul_bd {c : Int} {s : Nat} (h1 : 1 ≤ s ∧ s ≤ 6) (h2 : c.natAbs ≤ 81) : -405 ≤ c * ((s : Int) - 1) ∧ c * ((s : Int) - 1) ≤ 405 := by
  have e : (c * ((s : Int) - 1)).natAbs = c.natAbs * (s - 1) := by
    rw [Int.natAbs_mul]
    congr 1
    omega
  have h : c.natAbs * (s - 1) ≤ 81 * 5 := Nat.mul_le_mul h2 (by omega)
  omega
theorem low_bd : ∀ (axes : List (Nat × Int)), (∀ a ∈ axes, 1 ≤ a.1 ∧ a.1 ≤ 6) → (∀ a ∈ axes, a.2.natAbs ≤ 81) → -(405 * (axes.length : Int)) ≤ lowF axes ∧ lowF axes ≤ 0
  | [], _, _ => by simp [lowF, lowL]
  | a :: r, h1, h2 => by
    have ih := low_bd r (fun x hx => h1 x (List.mem_cons_of_mem _ hx)) fun x hx => h2 x (List.mem_cons_of_mem _ hx)
    have hm := mul_bd (h1 a List.mem_cons_self) (h2 a List.mem_cons_self)
    have e : lowF (a :: r) = lo1 (a.2 * ((a.1 : Int) - 1)) + lowF r := by
      unfold lowF lowL
      rw [List.map_cons, List.sum_cons]
    rw [e, List.length_cons]
    unfold lo1
    split <;> omega
theorem high_bd : ∀ (axes : List (Nat × Int)), (∀ a ∈ axes, 1 ≤ a.1 ∧ a.1 ≤ 6) → (∀ a ∈ axes, a.2.natAbs ≤ 81) → 0 ≤ highF axes ∧ highF axes ≤ 405 * (axes.length : Int)
  | [], _, _ => by simp [highF, highL]
  | a :: r, h1, h2 => by
    have ih := high_bd r (fun x hx => h1 x (List.mem_cons_of_mem _ hx)) fun x hx => h2 x (List.mem_cons_of_mem _ hx)
    have hm := mul_bd (h1 a List.mem_cons_self) (h2 a List.mem_cons_self)
    have e : highF (a :: r) = hi1 (a.2 * ((a.1 : Int) - 1)) + highF r := by
      unfold highF highL
      rw [List.map_cons, List.sum_cons]
    rw [e, List.length_cons]
    unfold hi1
    split <;> omega
theorem AxOk.low {axes : List (Nat × Int)} (h : AxOk axes) : -1215 ≤ lowF axes ∧ lowF axes ≤ 0 := by
  have := low_bd axes h.sz h.pc
  have := h.len
  omega
theorem AxOk.high {axes : List (Nat × Int)} (h : AxOk axes) : 0 ≤ highF axes ∧ highF axes ≤ 1215 := by
  have := high_bd axes h.sz h.pc
  have := h.len
  omega
/-! so many times as great -/
def farF (b : Int) (axes : List (Nat × Int)) : List (Nat × Int) := axes.map fun a => (a.1, a.2 * b)
theorem lo1_mul {b x : Int} (hb : 0 < b) : lo1 (x * b) = lo1 x * b := by
  unfold lo1
  by_cases h : x < 0
  · rw [if_pos h, if_pos (Int.mul_neg_of_neg_of_pos h hb)]
  · rw [if_neg h, if_neg, Int.zero_mul]
    have := Int.mul_nonneg (a := x) (b := b) (by omega) (by omega)
    omega
theorem hi1_mul {b x : Int} (hb : 0 < b) : hi1 (x * b) = hi1 x * b := by
  unfold hi1
  by_cases h : x > 0
  · rw [if_pos h, if_pos (Int.mul_pos h hb)]
  · rw [if_neg h, if_neg, Int.zero_mul]
    have := Int.mul_nonneg (a := -x) (b := b) (by omega) (by omega)
    rw [Int.neg_mul] at this
    omega
theorem low_far {b : Int} (hb : 0 < b) : ∀ axes : List (Nat × Int), lowF (farF b axes) = lowF axes * b
  | [] => by simp [lowF, lowL, farF]
  | a :: r => by
    have ih := low_far hb r
    have e : ∀ (a : Nat × Int) (r : List (Nat × Int)), lowF (a :: r) = lo1 (a.2 * ((a.1 : Int) - 1)) + lowF r := fun a r => by
      unfold lowF lowL
      rw [List.map_cons, List.sum_cons]
    show lowF ((a.1, a.2 * b) :: farF b r) = _
    rw [e, e, ih, Int.add_mul, ← lo1_mul hb]
    congr 2
    show a.2 * b * _ = _
    rw [Int.mul_assoc, Int.mul_assoc, Int.mul_comm b]
theorem high_far {b : Int} (hb : 0 < b) : ∀ axes : List (Nat × Int), highF (farF b axes) = highF axes * b
  | [] => by simp [highF, highL, farF]
  | a :: r => by
    have ih := high_far hb r
    have e : ∀ (a : Nat × Int) (r : List (Nat × Int)), highF (a :: r) = hi1 (a.2 * ((a.1 : Int) - 1)) + highF r := fun a r => by
      unfold highF highL
      rw [List.map_cons, List.sum_cons]
    show highF ((a.1, a.2 * b) :: farF b r) = _
    rw [e, e, ih, Int.add_mul, ← hi1_mul hb]
    congr 2
    show a.2 * b * _ = _
    rw [Int.mul_assoc, Int.mul_assoc, Int.mul_comm b]
theorem dot_far (b : Int) : ∀ (axes : List (Nat × Int)) (p : Pl), dot p ((farF b axes).map (·.2)) = dot p (axes.map (·.2)) * b
  | [], [] => by simp [dot, farF]
  | [], _ :: _ => by simp [dot, farF]
  | a :: r, [] => by simp [dot]
  | a :: r, k :: p => by
    have ih := dot_far b r p
    show (k : Int) * (a.2 * b) + dot p ((farF b r).map (·.2)) = ((k : Int) * a.2 + dot p (r.map (·.2))) * b
    rw [ih, Int.add_mul, Int.mul_assoc]
theorem sizes_far (b : Int) (axes : List (Nat × Int)) : (farF b axes).map (·.1) = axes.map (·.1) := by
  unfold farF
  rw [List.map_map]
  rfl
/-- bound pairs are the same of the great ones -/
theorem IsB.far {sz : List Nat} {w r w' r' : Pl → Int} {B : List (Pl × Pl)} {b m : Int} (hb : 0 < b) (h1 : ∀ p, IsPl sz p → w' p = w p * b + m) (h2 : ∀ p, IsPl sz p → r' p = r p * b + m) (h : IsB sz w r B) : IsB sz w' r' B := by
  have hinj : ∀ x y : Int, x * b + m = y * b + m ↔ x = y := fun x y => by
    constructor
    · intro e
      have e' : x * b = y * b := by omega
      exact Int.eq_of_mul_eq_mul_right (by omega) e'
    · intro e; rw [e]
  refine ⟨fun i j => ?_⟩
  rw [h.mem]
  constructor
  · rintro ⟨a1, a2, a3, a4, a5⟩
    refine ⟨a1, a2, a3, ?_, ?_⟩
    · rw [h1 i a1, h2 j a2, a4]
    · rw [h2 i a1, h2 j a2]
      exact fun z => a5 ((hinj _ _).mp z)
  · rintro ⟨a1, a2, a3, a4, a5⟩
    rw [h1 i a1, h2 j a2] at a4
    rw [h2 i a1, h2 j a2] at a5
    exact ⟨a1, a2, a3, (hinj _ _).mp a4, fun z => a5 (by rw [z])⟩
end PH

/-! Rules of my own over the hand layer: dicts whose keys are pairs of places, dicts compared, zip of a list with a tuple. -/
namespace PH
open PySem PySem.Spec PyProof.Rows L2

def nI (n : Nat) : V := .int (n : Int)
/-- a place stands at a -/
def PlA (H : Hp) (a : Addr) (p : Pl) : Prop := H a = some (.tup (p.map nI))
/-- a pair of places stands at a -/
def PrA (H : Hp) (a : Addr) (pr : PP) : Prop := ∃ b c, H a = some (.tup [.ref b, .ref c]) ∧ PlA H b pr.1 ∧ PlA H c pr.2
theorem PlA.same {H H' : Hp} {a : Addr} {p : Pl} (h : PlA H a p) (s : Same H H') : PlA H' a p := s _ _ h
theorem PrA.same {H H' : Hp} {a : Addr} {pr : PP} (h : PrA H a pr) (s : Same H H') : PrA H' a pr := by
  obtain ⟨b, c, e, e1, e2⟩ := h
  exact ⟨b, c, s _ _ e, e1.same s, e2.same s⟩

/-! keys -/
def plKey (p : Pl) : NestedKey := .tup (p.map fun n : Nat => NestedKey.num (n : Int))
def prKey (pr : PP) : NestedKey := .tup [plKey pr.1, plKey pr.2]
theorem plKey_inj {p q : Pl} (h : plKey p = plKey q) : p = q := by
  unfold plKey at h
  injection h with h
  refine (List.map_inj_right fun a b e => ?_).mp h
  injection e with e
  omega
theorem prKey_inj {x y : PP} (h : prKey x = prKey y) : x = y := by
  unfold prKey at h
  injection h with h
  injection h with h1 h
  injection h with h2 h
  exact Prod.ext (plKey_inj h1) (plKey_inj h2)
theorem depth_nums : ∀ p : Pl, NestedKey.depthAll (p.map fun n : Nat => NestedKey.num (n : Int)) = 0
  | [] => rfl
  | a :: p => by
    show max (NestedKey.depth (.num a)) (NestedKey.depthAll (p.map fun n : Nat => NestedKey.num (n : Int))) = 0
    rw [depth_nums p]
    rfl
theorem depth_pr (pr : PP) : NestedKey.depth (prKey pr) = 2 := by
  unfold prKey plKey
  simp only [NestedKey.depth, NestedKey.depthAll, depth_nums]
  rfl
section
variable {P : Program} {w : World}
theorem nested_ints {h : Heap} : ∀ {p : Pl} {its : List Value}, Vals (p.map nI) its → NestedAll h (p.map fun n : Nat => NestedKey.num (n : Int)) its
  | [], _, .nil => .nil
  | a :: p, _, .cons r t => by
    obtain ⟨k, rfl⟩ := r
    exact .cons (.int _ _) (nested_ints t)
theorem nested_pl {H : Hp} {h : Heap} {a : Addr} {p : Pl} (ok : HOk P w H h) (e : PlA H a p) : NestedIs h (plKey p) (.ref a) := by
  obtain ⟨_, its, r, o, h1, h2, n, h3⟩ := (show ObjOk P w H h a (.tup (p.map nI)) from ok a _ e)
  exact .tup h1 h2 h3 (by simpa using nested_ints r)
theorem nested_pr {H : Hp} {h : Heap} {a : Addr} {pr : PP} (ok : HOk P w H h) (e : PrA H a pr) : (nestedKind P w).is h (prKey pr) a := by
  obtain ⟨b, c, e0, e1, e2⟩ := e
  refine ⟨?_, by rw [depth_pr]; decide⟩
  obtain ⟨_, its, r, o, h1, h2, n, h3⟩ := (show ObjOk P w H h a (.tup [.ref b, .ref c]) from ok a _ e0)
  obtain ⟨u1, u2, rfl, r1, r2⟩ := vals2 r
  cases r1
  cases r2
  exact .tup h1 h2 h3 (.cons (nested_pl ok e1) (.cons (nested_pl ok e2) .nil))
end
abbrev NE := NestedKey × Addr × Value
/-- the one object of a dict of pairs -/
def KnO (P : Program) (w : World) (d : Addr) (xs : List NE) (h : Heap) : Prop :=
  (d == sysModules) = false ∧ ∃ o es ep, h.get? d = some o ∧ o.ExactDict ∧ o.data = .dict es ep ∧ es.toList = xs.map (entryOfKey (nestedKind P w)) ∧ (xs.map (·.1)).Nodup
theorem KnO.ok {P : Program} {w : World} {d : Addr} {xs : List NE} {H : Hp} {h : Heap} (x : KnO P w d xs h) : ObjOk P w H h d (.ext (KnO P w d xs)) := by
  obtain ⟨z, o, es, ep, e, r⟩ := id x
  refine ⟨x, ⟨o, e⟩, fun h1 h2 y k => ?_⟩
  obtain ⟨z, o, es, ep, e, r⟩ := y
  exact ⟨z, o, es, ep, k o e, r⟩
/-- each key's pair stands where the entry says -/
def KeysA (H : Hp) (xs : List NE) : Prop := ∀ x ∈ xs, ∃ pr, x.1 = prKey pr ∧ PrA H x.2.1 pr
theorem KeysA.same {H H' : Hp} {xs : List NE} (h : KeysA H xs) (s : ∀ (a : Addr) (pr : PP), PrA H a pr → PrA H' a pr) : KeysA H' xs := fun x hx => by
  obtain ⟨pr, e, k⟩ := h x hx
  exact ⟨pr, e, s _ _ k⟩
section
variable {X : Cx} {pins : List (Addr × Obj)} {σ : L2.St} {H : Hp} {s : Shared} {d a : Addr} {xs : List NE} {pr : PP}
theorem kn_dict (I : Inv X pins σ H s) (e : H d = some (.ext (KnO X.prog X.w d xs))) (k : KeysA H xs) : (d == sysModules) = false ∧ s.heap.DictOfH (nestedKind X.prog X.w) d xs := by
  obtain ⟨⟨z, o, es, ep, h1, h2, h3, h4, h5⟩, _⟩ := (show ObjOk X.prog X.w H s.heap d (.ext (KnO X.prog X.w d xs)) from I.hok d _ e)
  refine ⟨z, o, es, ep, h1, h2, h3, h4, fun x hx => ?_, h5⟩
  obtain ⟨pr, e1, e2⟩ := k x hx
  rw [e1]
  exact nested_pr I.hok e2
theorem kn_room (hu : X.A.units + 64 < cLine) : (nestedKind X.prog X.w).room X.A.in1 := by
  show X.A.units + 1 + 8 < cLine
  omega
end
section
variable {X : Cx} {o i value : Expr} {pos pos' : Pos} {td ty tv : TE}
/-- {} that is to hold pairs of places -/
def tDNewN (P : Program) (w : World) : TE := fun _ H Q => ∀ p, H p = none → Q (.ref p) (upd H p (.ext (KnO P w p [])))
theorem pe_dnewN : PE X (.Dict [] [] pos) (tDNewN X.prog X.w) := ⟨fun pins s σ H Q I h => by
  refine wpAny_Dict_empty ⟨.ref s.heap.objs.size, upd H s.heap.objs.size (.ext (KnO X.prog X.w s.heap.objs.size [])), ?_, rfl, h _ (I.hok.fresh (Nat.le_refl _))⟩
  refine I.laid (t' := s.toks) (fun _ _ q => Heap.get?_push_of_some _ q) (Nat.le_refl _) (KnO.ok ⟨beq_eq_false_iff_ne.mpr (Ne.symm (Nat.ne_of_lt I.big)), _, #[], 0, Heap.get?_push_size _ rfl, ⟨rfl, rfl, rfl⟩, rfl, rfl, List.nodup_nil⟩)⟩
def sNPut (P : Program) (w : World) (td ty tv : TE) : TS := fun D σ H => tv σ H fun v H1 => td σ H1 fun x H2 => ty σ H2 fun y H3 => ∃ d a pr xs b, v = .bl b ∧ x = .ref d ∧ y = .ref a ∧ PrA H3 a pr ∧
  H3 d = some (.ext (KnO P w d xs)) ∧ KeysA H3 xs ∧ xs.length ≤ sizeLine ∧ D.nx σ (upd H3 d (.ext (KnO P w d (storedH xs (prKey pr) a (.bool b)))))
theorem ps_nput (hu : X.A.units + 64 < cLine) (ho : PE X o td) (hi : PE X i ty) (hv : PE X value tv) (hs : swapsWith value (some (.Subscript o i pos')) pos.line X.env = pure false) :
    PS X (.Assign [.Subscript o i pos'] value pos) (sNPut X.prog X.w td ty tv) := by
  refine ⟨fun pins s σ H D I h => ?_⟩
  refine wpAny_Assign_Subscript (thn (hv.run pins s σ H _ I h) fun r s1 ⟨v, H1, I1, rv, q1⟩ => thn (ho.run pins s1 σ H1 _ I1 q1) fun u s2 ⟨x, H2, I2, rx, q2⟩ =>
    thn (hi.run pins s2 σ H2 _ I2 q2) fun iv s3 ⟨y, H3, I3, ry, d, a, pr, xs, b, ev, ex, ey, ka, e, k, hz, q3⟩ => ?_) hs
  subst ev ex ey
  obtain rfl : u = Value.ref d := rx
  obtain rfl : iv = Value.ref a := ry
  obtain rfl : r = Value.bool b := rv
  obtain ⟨hd, dd⟩ := kn_dict I3 e k
  refine wpAny_setItem_heap (hsz := hz) (kn_room hu) (nested_pr I3.hok ka) dd fun h' dd' hsb => ?_
  obtain ⟨q, es, ep, hq, h2, h3, h4, _, h5⟩ := dd'
  refine ⟨σ, _, I3.write (x := d) (e := d) (by rw [e]; exact True.intro) (.inl rfl) (fun c o hc z => (hsb.2 c hc).trans z) ⟨q, hq⟩ (KnO.ok ⟨hd, q, es, ep, hq, h2, h3, h4, h5⟩), q3⟩
def tNIn (P : Program) (w : World) (ty td : TE) : TE := fun σ H Q => ty σ H fun y H1 => td σ H1 fun x H2 => ∃ d a pr xs, x = .ref d ∧ y = .ref a ∧ PrA H2 a pr ∧ H2 d = some (.ext (KnO P w d xs)) ∧ KeysA H2 xs ∧
  Q (.bl (decide (prKey pr ∈ xs.map (·.1)))) H2
theorem pc_nin (hu : X.A.units + 64 < cLine) (hi : PE X i ty) (ho : PE X o td) : PC X .In i o (tNIn X.prog X.w ty td) := by
  refine ⟨fun pins s σ H Q I h => ?_⟩
  refine thn (hi.run pins s σ H _ I h) fun iv s1 ⟨y, H1, I1, ry, q1⟩ => thn (ho.run pins s1 σ H1 _ I1 q1) fun u s2 ⟨x, H2, I2, rx, d, a, pr, xs, ex, ey, ka, e, k, q2⟩ => ?_
  subst ex ey
  obtain rfl : u = Value.ref d := rx
  obtain rfl : iv = Value.ref a := ry
  obtain ⟨hd, dd⟩ := kn_dict I2 e k
  refine in_keyed (knd := nestedKind X.prog X.w) (kvs := pairsH xs) (k := prKey pr) (kn_room hu) (nested_pr I2.hok ka) hd ⟨xs, dd, rfl⟩ ?_
  refine ⟨_, H2, I2.tok _, ?_, q2⟩
  show Value.bool _ = Value.bool _
  congr 1
  rw [Bool.eq_iff_iff, valueAt_isSome, decide_eq_true_eq]
  unfold pairsH
  rw [List.map_map]
  exact Iff.rfl
end

/-! dicts of ints compared -/
section
variable {X : Cx}
def rEqInts : R2 := fun x y H Q => ∃ a b ks ls, x = .ref a ∧ y = .ref b ∧ H a = some (.dK ks) ∧ H b = some (.dK ls) ∧ ks.length = ls.length ∧
  (∀ p ∈ ks, ∃ n m : Int, p.2 = .int n ∧ valV ls p.1 = some (.int m)) ∧ Q (.bl (ks.all fun p => decide (valV ls p.1 = some p.2))) H
theorem hits_ints {A : Around} {s : Shared} {ls : List (Key × V)} {vb : List (Key × Value)} (rb : KV ls vb) : ∀ {ks : List (Key × V)} {va : List (Key × Value)}, KV ks va →
    (∀ p ∈ ks, ∃ n m : Int, p.2 = .int n ∧ valV ls p.1 = some (.int m)) → PySem.W.KeqHits A s vb va (ks.all fun p => decide (valV ls p.1 = some p.2)) := by
  intro ks va ra
  unfold KV at ra
  induction ra with
  | nil => intro _; exact .nil
  | @cons p q ps qs h t ih =>
    intro hp
    obtain ⟨h1, h2⟩ := h
    obtain ⟨n, m, e1, e2⟩ := hp p List.mem_cons_self
    have rr : RelO (some (V.int m)) (valueAt vb p.1) := by
      rw [← e2]
      exact rb.val p.1
    obtain ⟨y, hy, ry⟩ := rr.some_of
    obtain ⟨k, v⟩ := q
    have h1' : p.1 = k := h1
    rw [h1'] at hy
    rw [e1] at h2
    obtain ⟨t1, h2'⟩ := h2
    obtain ⟨t2, ry'⟩ := ry
    have h2'' : v = Value.int n t1 := h2'
    subst h2''
    subst ry'
    have eq : decide (valV ls p.1 = some p.2) = (n == m) := by
      rw [e2, e1, Bool.eq_iff_iff, decide_eq_true_eq, beq_iff_eq]
      constructor
      · intro z
        injection z with z
        injection z with z
        exact z.symm
      · intro z
        rw [z]
    rw [List.all_cons, eq]
    exact .hit hy (SeqAt.EqAt.int_int n t1 m t2) (ih fun p' hm => hp p' (List.mem_cons_of_mem _ hm))
theorem op_eq_ints (hu : X.A.units < cLine) : OpR X (compareOp .Eq) rEqInts := by
  intro pins s σ H x y v u Q I rx ry h
  obtain ⟨a, b, ks, ls, rfl, rfl, ea, eb, hlen, hp, q⟩ := h
  obtain rfl : v = Value.ref a := rx
  obtain rfl : u = Value.ref b := ry
  obtain ⟨_, ya, va, ra, da⟩ := (show ObjOk X.prog X.w H s.heap a (.dK ks) from I.hok a _ ea)
  obtain ⟨_, yb, vb, rb, db⟩ := (show ObjOk X.prog X.w H s.heap b (.dK ls) from I.hok b _ eb)
  have hl : va.length = vb.length := by rw [← ra.length, ← rb.length]; exact hlen
  exact PySem.W.keq_eq (knd := mixKind X.prog X.w) ya yb da db hu (fun _ => hits_ints rb ra hp) (fin_bl I q (by simp [hl]))
end

/-! zip of a list with a tuple, either way about -/
/-- t: a tuple; else a list -/
def SqX (t : Bool) (K : PySem.W.Frag) (H : Hp) (a : Addr) (xs : List V) : Prop := if t = true then SqT K H a xs else SqL K H a xs
theorem SqX.tup {K : PySem.W.Frag} {H : Hp} {a : Addr} {xs : List V} (h : SqT K H a xs) : SqX true K H a xs := h
theorem SqX.lst {K : PySem.W.Frag} {H : Hp} {a : Addr} {xs : List V} (h : SqL K H a xs) : SqX false K H a xs := h
def ItX (t : Bool) (h : Heap) (it a : Addr) (i : Nat) : Prop := if t = true then h.IsTupleIter it a i else h.IsListIter it a i
def IsX (t : Bool) (h : Heap) (a : Addr) (xs : Array Value) : Prop := if t = true then h.IsTuple a xs else h.IsList a xs
def obX (t : Bool) (a : Addr) : Obj := { cls := .type (if t = true then "tuple_iterator" else "list_iterator"), data := .fields #[.ref a, .int 0 0] }
theorem drawsX {prog : Program} {w : World} {A : Around} (t : Bool) (hh : A.handled = none) (it a : Addr) (hne : a ≠ it) (items : Array Value) :
    Draws prog w A it [it, a] items.size (fun i v => items[i]? = some v) (fun i h => ItX t h it a i ∧ IsX t h a items) := by
  cases t with
  | true => exact Draws.tuple hh it a hne items
  | false => exact Draws.list hh it a hne items
theorem beginsX (t : Bool) (a : Addr) (items : Array Value) : Begins (.ref a) (obX t a) fun h => IsX t h a items := by
  cases t with
  | true => exact begins_tuple a items
  | false => exact begins_list a items
theorem ItX.new {t : Bool} {h : Heap} {it a : Addr} (e : h.get? it = some (obX t a)) : ItX t h it a 0 := by
  cases t with
  | true => exact ⟨_, e, rfl, rfl⟩
  | false => exact ⟨_, e, rfl, rfl⟩
theorem ItX.obj {t : Bool} {h : Heap} {it a : Addr} {i : Nat} (x : ItX t h it a i) : ∃ o vs, h.get? it = some o ∧ o.data = .fields vs := by
  cases t with
  | true => obtain ⟨o, e, _, d⟩ := (show h.IsTupleIter it a i from x); exact ⟨o, _, e, d⟩
  | false => obtain ⟨o, e, _, d⟩ := (show h.IsListIter it a i from x); exact ⟨o, _, e, d⟩
theorem ItX.at {t : Bool} {h h' : Heap} {it a : Addr} {i : Nat} (x : ItX t h it a i) (k : ∀ o, h.get? it = some o → h'.get? it = some o) : ItX t h' it a i := by
  cases t with
  | true => exact Heap.IsTupleIter.at (show h.IsTupleIter it a i from x) k
  | false => exact Heap.IsListIter.at (show h.IsListIter it a i from x) k
section
variable {X : Cx} {pins : List (Addr × Obj)} {σ : L2.St} {H : Hp} {s : Shared} {a : Addr} {xs ys : List V} {t : Bool}
theorem inv_seq (I : Inv X pins σ H s) (h : SqX t X.K H a xs) : ∃ its : List Value, Vals xs its ∧ IsX t s.heap a its.toArray ∧ a < s.heap.objs.size := by
  cases t with
  | true =>
    obtain ⟨its, r, p, _⟩ := I.tuple (show SqT X.K H a xs from h)
    exact ⟨its, r, p, p.lt⟩
  | false =>
    obtain ⟨its, r, p, _⟩ := I.list (show SqL X.K H a xs from h)
    exact ⟨its, r, p.isList, p.lt⟩
theorem inv_seq_inj (I : Inv X pins σ H s) (h : SqX t X.K H a xs) (h' : SqX t X.K H a ys) : xs = ys := by
  cases t with
  | true => exact I.tuple_inj (show SqT X.K H a xs from h) h'
  | false => exact I.list_inj (show SqL X.K H a xs from h) h'
end
def ItZ (t u : Bool) (K : PySem.W.Frag) (a b : Addr) : It :=
  ⟨fun i H => ∃ (xs ys : List V) (x y : V), SqX t K H a xs ∧ SqX u K H b ys ∧ xs[i]? = some x ∧ ys[i]? = some y,
   fun i H v H' => ∃ T x y, v = .ref T ∧ H T = none ∧ H' = upd H T (.tup [x, y]) ∧ (∀ xs, SqX t K H a xs → xs[i]? = some x) ∧ ∀ ys, SqX u K H b ys → ys[i]? = some y,
   fun i H => ∃ xs ys : List V, SqX t K H a xs ∧ SqX u K H b ys ∧ i ≤ xs.length ∧ i ≤ ys.length ∧ (i = xs.length ∨ i = ys.length)⟩
theorem walk_zipX {t u : Bool} {K : PySem.W.Frag} {a b : Addr} {xs ys : List V} (hn : xs.length = ys.length) :
    Walk (ItZ t u K a b) xs.length (fun H => SqX t K H a xs ∧ SqX u K H b ys) (YPair (fun i => xs[i]?) (fun i => ys[i]?)) := by
  refine ⟨fun i _ hi q => ?_, fun _ q => ⟨xs, ys, q.1, q.2, Nat.le_refl _, by omega, .inl rfl⟩, fun i H v H' _ q y => ?_⟩
  · exact ⟨xs, ys, xs[i], ys[i], q.1, q.2, List.getElem?_eq_getElem hi, List.getElem?_eq_getElem (by omega)⟩
  · obtain ⟨T, x, z, h1, h2, h3, h4, h5⟩ := y
    exact ⟨T, x, z, h1, h2, h3, h4 xs q.1, h5 ys q.2⟩
theorem sepX (n a b : Nat) (ha : a < n) (hb : b < n) : ZipSep2 (n + 4) (n + 2) (n + 3) n (n + 1) [n, a] [n + 1, b] := by
  have ne : ∀ {x y : Nat}, x < y ∨ y < x → (x : Addr) ≠ (y : Addr) := fun {x y} h e => by
    have e' : x = y := e
    omega
  have nm : ∀ {x y z : Nat}, (x < y ∨ y < x) → (x < z ∨ z < x) → (x : Addr) ∉ [(y : Addr), (z : Addr)] := fun {x y z} h1 h2 hm => by
    rcases List.mem_cons.mp hm with e | hm
    · exact ne h1 e
    · exact ne h2 (List.mem_singleton.mp hm)
  exact ⟨ne (by omega), ne (by omega), ne (by omega), ne (by omega), List.mem_cons_self, nm (by omega) (by omega), nm (by omega) (by omega), ne (by omega), List.mem_cons_self, nm (by omega) (by omega), nm (by omega) (by omega), nm (by omega) (by omega), nm (by omega) (by omega)⟩
theorem turn_zipX {P : Program} {w : World} {K : PySem.W.Frag} {elts : List Expr} {kk : Nat} {tpos : Pos} {t u : Bool} {a b z TI TO i1 i2 : Addr} (S : ZipSep2 z TI TO i1 i2 [i1, a] [i2, b]) (ha : a ≠ i1) (hb : b ≠ i2) :
    Turn P w K (.Tuple elts kk tpos) (ItZ t u K a b) [z, TI, TO, i1, i2] z (fun i h => IsZip h z TI TO .none ∧ IsTupOf2 h TI (.ref i1) (.ref i2) ∧ (∃ x y, IsTupOf2 h TO x y) ∧ ItX t h i1 a i ∧ ItX u h i2 b i) where
  mem := List.mem_cons_self
  obj := fun i h st c hc => by
    obtain ⟨hz, hTI, ⟨x, y, hTO⟩, h1, h2⟩ := st
    obtain ⟨o1, v1, e1, d1⟩ := h1.obj
    obtain ⟨o2, v2, e2, d2⟩ := h2.obj
    have e' : c = z ∨ c = TI ∨ c = TO ∨ c = i1 ∨ c = i2 := by simpa using hc
    rcases e' with q | q | q | q | q <;> subst q
    · exact ⟨_, hz, fun v q => nomatch q⟩
    · exact ⟨_, hTI, fun v q => nomatch q⟩
    · exact ⟨_, hTO, fun v q => nomatch q⟩
    · exact ⟨o1, e1, fun v q => by rw [d1] at q; cases q⟩
    · exact ⟨o2, e2, fun v q => by rw [d2] at q; cases q⟩
  keep := fun i h h' st k => by
    obtain ⟨hz, hTI, ⟨x, y, hTO⟩, h1, h2⟩ := st
    exact ⟨k z (by simp) _ hz, k TI (by simp) _ hTI, ⟨x, y, k TO (by simp) _ hTO⟩, h1.at fun o q => k i1 (by simp) o q, h2.at fun o q => k i2 (by simp) o q⟩
  item := by
    intro X hP hw hK hc i pins s σ H E I hf st hg
    subst hP hw hK
    obtain ⟨hz, hTI, ⟨x0, y0, hTO⟩, h1, h2⟩ := st
    obtain ⟨xs, ys, x, y, hqx, hqy, hx, hy⟩ := hg
    obtain ⟨its, rv, p, _⟩ := inv_seq I hqx
    obtain ⟨its2, rv2, p2, _⟩ := inv_seq I hqy
    have l1 := rv.length
    have l2 := rv2.length
    have ix := (List.getElem?_eq_some_iff.mp hx).1
    have iy := (List.getElem?_eq_some_iff.mp hy).1
    have hzl : z < s.heap.objs.size := Heap.lt_size hz
    have hh : X.A.in1.handled = none := I.ok.hd hc
    refine wpAny_pyNext_zipD2_item S (drawsX t hh i1 a ha its.toArray) (drawsX u hh i2 b hb its2.toArray) hz hTI hTO ⟨h1, p⟩ ⟨h2, p2⟩ (by simp; omega) (by simp; omega) fun v1 v2 h' tk y1 y2 z' TO' s1 s2 hT hsz hk => ?_
    refine ⟨_, rfl, wpAny_letOwnedTupleGo_zip (s := { s with heap := h', toks := tk }) z' fun h'' z'' sb => ?_⟩
    have hT2 : h''.get? s.heap.objs.size = some { cls := .type "tuple", data := .seq #[v1, v2] } := (sb.2 _ (Nat.ne_of_gt hzl)).trans hT
    obtain ⟨u1, hu1, ru1⟩ := rv.get hx
    obtain ⟨u2, hu2, ru2⟩ := rv2.get hy
    have e1 : u1 = v1 := Option.some.inj (hu1.symm.trans (by simpa using y1))
    have e2 : u2 = v2 := Option.some.inj (hu2.symm.trans (by simpa using y2))
    subst e1 e2
    have new : ObjOk X.prog X.w (upd H s.heap.objs.size (.tup [x, y])) h'' s.heap.objs.size (.tup [x, y]) :=
      ⟨by show 2 ≤ sizeLine; decide, [u1, u2], .cons ru1 (.cons ru2 .nil), ⟨_, hT2, rfl, _, rfl⟩⟩
    have kp : ∀ c o, c ∉ [z, TI, TO, i1, i2] → s.heap.get? c = some o → h''.get? c = some o := fun c o hc q => by
      simp only [List.mem_cons, List.not_mem_nil, or_false, not_or] at hc
      exact (sb.2 c hc.1).trans (hk c o hc.1 hc.2.2.1 hc.2.2.2.1 hc.2.2.2.2 q)
    have I1 : Inv X pins σ (upd H s.heap.objs.size (.tup [x, y])) { s with heap := h'', toks := tk } := I.turnedNew (ch := [z, TI, TO, i1, i2]) kp hf (Nat.le_refl _) new
    refine ⟨.ref s.heap.objs.size, _, I1, rfl, ⟨_, x, y, rfl, I.hok.fresh (Nat.le_refl _), rfl, fun l hl => by rw [inv_seq_inj I hl hqx]; exact hx, fun l hl => by rw [inv_seq_inj I hl hqy]; exact hy⟩, ⟨z'', ?_, ⟨u1, u2, ?_⟩, ?_, ?_⟩, fun c hcm => ?_⟩
    · exact (sb.2 _ S.TIz).trans (hk _ _ S.TIz S.TITO S.TIi1 S.TIi2 hTI)
    · exact (sb.2 _ S.TOz).trans TO'
    · exact s1.1.at fun o q => (sb.2 _ (Ne.symm S.zi1)).trans q
    · exact s2.1.at fun o q => (sb.2 _ (Ne.symm S.zi2)).trans q
    · have hlt : c < s.heap.objs.size := by
        obtain ⟨o1, w1, f1, _⟩ := h1.obj
        obtain ⟨o2, w2, f2, _⟩ := h2.obj
        have e' : c = z ∨ c = TI ∨ c = TO ∨ c = i1 ∨ c = i2 := by simpa using hcm
        rcases e' with q | q | q | q | q <;> subst q
        · exact hzl
        · exact Heap.lt_size hTI
        · exact Heap.lt_size hTO
        · exact Heap.lt_size f1
        · exact Heap.lt_size f2
      rw [upd_ne (Nat.ne_of_lt hlt)]
      exact (hf c hcm).1
  done := by
    intro X hP hw hK hc i pins s σ H E I hf st hg
    subst hP hw hK
    obtain ⟨hz, hTI, ⟨x0, y0, hTO⟩, h1, h2⟩ := st
    obtain ⟨xs, ys, hqx, hqy, l1, l2, hend⟩ := hg
    obtain ⟨its, rv, p, _⟩ := inv_seq I hqx
    obtain ⟨its2, rv2, p2, _⟩ := inv_seq I hqy
    have r1 := rv.length
    have r2 := rv2.length
    have hh : X.A.in1.handled = none := I.ok.hd hc
    refine wpAny_pyNext_zipD2_end S (drawsX t hh i1 a ha its.toArray) (drawsX u hh i2 b hb its2.toArray) hz hTI hTO ⟨h1, p⟩ ⟨h2, p2⟩ (by simp; omega) (by simp; omega) (by simp; omega) fun h' tk hk => ⟨rfl, I.turnedL (ch := [z, TI, TO, i1, i2]) (fun c o hb q => ?_) hf⟩
    simp only [List.mem_cons, List.not_mem_nil, or_false, not_or] at hb
    exact hk c o hb.1 hb.2.2.1 hb.2.2.2.1 hb.2.2.2.2 q
  self := fun A i s Q E st h => wpAny_pyIter_zip st.1 h
def iZipX (t u : Bool) (K : PySem.W.Frag) (ta : TA) : TI := fun σ H R => ta σ H fun vs H1 => ∃ a b xs ys, vs = [.ref a, .ref b] ∧ SqX t K H1 a xs ∧ SqX u K H1 b ys ∧ R (ItZ t u K a b) H1
theorem pi_zipX (t u : Bool) {X : Cx} {e e2 : Expr} {ta : TA} {p pos tpos : Pos} {elts : List Expr} {kk : Nat} (hg : Gl X "zip") (hm : X.mg "zip" = none) (ha : PA X [e, e2] ta)
    (hs : starEach [e, e2] X.env = (false, eval e X.env) :: starEach [e2] X.env := by rfl) (hpl : (backTo pos (starEach [e2] X.env)).any (·.1) = false := by rfl) :
    PI X (.Tuple elts kk tpos) (.Call (.Name "zip" p) [e, e2] [] pos) (iZipX t u X.K ta) := by
  refine ⟨fun pins s σ H R I h => ?_⟩
  refine Call_ (ld_blt I hg hm PyProof.Rows.boot_zip (PyProof.Rows.callWith_type1 (thn (ha.run pos pins s σ H _ I h) fun us s1 ⟨vs, H1, I1, r1, q1⟩ => ?_) hs hpl))
  obtain ⟨a, b, xs, ys, ex, hqx, hqy, q⟩ := q1
  subst ex
  obtain ⟨u1, u2, rfl, r1, r2⟩ := vals2 r1
  obtain rfl : u1 = Value.ref a := r1
  obtain rfl : u2 = Value.ref b := r2
  obtain ⟨its, rv, p1, la⟩ := inv_seq I1 hqx
  obtain ⟨its2, rv2, p2, lb⟩ := inv_seq I1 hqy
  refine zip_begins2 (beginsX t a its.toArray) (beginsX u b its2.toArray) p1 p2 fun h' hz hTI hTO h1 h2 hsz hk => wpAny_pyIter_zip hz ?_
  have I2 : Inv X pins σ H1 { s1 with heap := h' } := I1.kept (t' := s1.toks) hk
  refine ⟨s1.heap.objs.size + 4, [s1.heap.objs.size + 4, s1.heap.objs.size + 2, s1.heap.objs.size + 3, s1.heap.objs.size, s1.heap.objs.size + 1], _, _, H1, rfl, I2,
    turn_zipX (sepX s1.heap.objs.size a b la lb) (Nat.ne_of_lt la) (Nat.ne_of_lt (Nat.lt_succ_of_lt lb)), ⟨hz, hTI, ⟨_, _, hTO⟩, ItX.new h1, ItX.new h2⟩, fun c hcm => ?_, q⟩
  have hle : s1.heap.objs.size ≤ c := by
    simp only [List.mem_cons, List.not_mem_nil, or_false] at hcm
    rcases hcm with z | z | z | z | z <;> rw [z]
    · exact Nat.le_add_right _ _
    · exact Nat.le_add_right _ _
    · exact Nat.le_add_right _ _
    · exact Nat.le_refl _
    · exact Nat.le_add_right _ _
  exact I1.fpOk hle (I1.hok.fresh hle)
end PH

/-! list(zip(xs, ys)) of two lists: a rule of my own. -/
namespace PH
open PySem PySem.Spec PyProof.Rows L2 PySem.Calls PyProof.V

/-- the zip's own cells at turn i; its last tuple is held by the list at S -/
def ZSt (z TI TO i1 i2 l1 l2 : Addr) (xs ys : Array Value) (S : Addr) (i : Nat) (h : Heap) : Prop :=
  IsPair h TI (.ref i1) (.ref i2) ∧ h.IsListIter i1 l1 i ∧ h.IsListIter i2 l2 i ∧ h.IsList l1 xs ∧ h.IsList l2 ys ∧
  ((IsZip h z TI TO .none ∧ ∃ a b, IsPair h TO a b) ∨ ∃ (T : Addr) (f : Bool) (oT : Obj), IsZipHeld h z TI TO T f ∧ h.get? T = some oT ∧ T ≠ z ∧ T ≠ i1 ∧ T ≠ i2 ∧ T ≠ S)
section
variable {prog : Program} {w : World} {A : Around} {E : Value → Shared → Prop} {s : Shared} {z TI TO i1 i2 l1 l2 S : Addr} {xs ys : Array Value} {i : Nat}
theorem ZSt.off (D : ZipApart z TI TO i1 i2 l1 l2) {h h' : Heap} (st : ZSt z TI TO i1 i2 l1 l2 xs ys S i h) (hS : S ≠ z ∧ S ≠ TI ∧ S ≠ TO ∧ S ≠ i1 ∧ S ≠ i2 ∧ S ≠ l1 ∧ S ≠ l2) (k : ∀ b o, b ≠ S → h.get? b = some o → h'.get? b = some o) : ZSt z TI TO i1 i2 l1 l2 xs ys S i h' := by
  obtain ⟨a1, a2, a3, a4, a5, a6⟩ := st
  obtain ⟨n1, n2, n3, n4, n5, n6, n7⟩ := hS
  refine ⟨k _ _ (Ne.symm n2) a1, a2.at fun o e => k _ o (Ne.symm n4) e, a3.at fun o e => k _ o (Ne.symm n5) e, a4.at fun o e => k _ o (Ne.symm n6) e, a5.at fun o e => k _ o (Ne.symm n7) e, ?_⟩
  rcases a6 with ⟨hz, a, b, hTO⟩ | ⟨T, f, oT, hz, hT, r1, r2, r3, r4⟩
  · exact .inl ⟨k _ _ (Ne.symm n1) hz, a, b, k _ _ (Ne.symm n3) hTO⟩
  · exact .inr ⟨T, f, oT, k _ _ (Ne.symm n1) hz, k _ _ r4 hT, r1, r2, r3, r4⟩
theorem zs_item (D : ZipApart z TI TO i1 i2 l1 l2) {x y : Value} {Q : Option Value → Shared → Prop} (st : ZSt z TI TO i1 i2 l1 l2 xs ys S i s.heap) (hS : S < s.heap.objs.size) (ex : xs[i]? = some x) (ey : ys[i]? = some y)
    (hQ : ∀ h', ZSt z TI TO i1 i2 l1 l2 xs ys S (i + 1) h' → h'.get? s.heap.objs.size = some { cls := .type "tuple", data := .seq #[x, y] } → h'.objs.size = s.heap.objs.size + 1 →
      (∀ c o, c ≠ z → c ≠ TO → c ≠ i1 → c ≠ i2 → s.heap.get? c = some o → h'.get? c = some o) → Q (some (.ref s.heap.objs.size)) { s with heap := h' }) : wpAny (model prog w) A (pyNext (.ref z)) Q E s := by
  obtain ⟨hTI, h1, h2, hl1, hl2, hz⟩ := st
  have lt : ∀ {c : Addr} {o : Obj}, s.heap.get? c = some o → s.heap.objs.size ≠ c := fun e => Nat.ne_of_gt (Heap.lt_size e)
  have n1 : s.heap.objs.size ≠ i1 := by obtain ⟨_, e, _⟩ := h1; exact lt e
  have n2 : s.heap.objs.size ≠ i2 := by obtain ⟨_, e, _⟩ := h2; exact lt e
  rcases hz with ⟨hz, a, b, hTO⟩ | ⟨T, f, oT, hz, hT, r1, r2, r3, r4⟩
  · refine wpAny_pyNext_zip_item D hz hTI hTO h1 h2 hl1 hl2 ex ey fun h' a1 a2 a3 a4 a5 a6 hk => ?_
    exact hQ h' ⟨hk _ _ D.TIz D.TITO D.TIi1 D.TIi2 hTI, a3, a4, hl1.at fun o e => hk _ o D.l1z D.l1TO D.l1i1 D.l1i2 e, hl2.at fun o e => hk _ o D.l2z D.l2TO D.l2i1 D.l2i2 e,
      .inr ⟨s.heap.objs.size, false, _, a1, a5, lt hz, n1, n2, Nat.ne_of_gt hS⟩⟩ a5 a6 hk
  · refine wpAny_pyNext_zip_item_held D hz hT hTI h1 h2 hl1 hl2 ex ey fun h' a1 a3 a4 a5 a6 hk => ?_
    exact hQ h' ⟨hk _ _ D.TIz D.TIi1 D.TIi2 hTI, a3, a4, hl1.at fun o e => hk _ o D.l1z D.l1i1 D.l1i2 e, hl2.at fun o e => hk _ o D.l2z D.l2i1 D.l2i2 e,
      .inr ⟨T, true, oT, a1, hk _ _ r1 r2 r3 hT, r1, r2, r3, r4⟩⟩ a5 a6 fun c o c1 _ c3 c4 e => hk c o c1 c3 c4 e
theorem zs_done (D : ZipApart z TI TO i1 i2 l1 l2) {Q : Option Value → Shared → Prop} (hh : A.handled = none) (st : ZSt z TI TO i1 i2 l1 l2 xs ys S i s.heap) (hend : xs[i]? = none ∨ ys[i]? = none)
    (hQ : ∀ h', (∀ c o, c ≠ z → c ≠ TO → c ≠ i1 → c ≠ i2 → s.heap.get? c = some o → h'.get? c = some o) → Q none { s with heap := h' }) : wpAny (model prog w) A (pyNext (.ref z)) Q E s := by
  obtain ⟨hTI, h1, h2, hl1, hl2, hz⟩ := st
  rcases hz with ⟨hz, a, b, hTO⟩ | ⟨T, f, oT, hz, hT, r1, r2, r3, r4⟩
  · exact wpAny_pyNext_zip_end hh D hz hTI hTO h1 h2 hl1 hl2 hend hQ
  · exact wpAny_pyNext_zip_end_held hh D hz hT hTI h1 h2 hl1 hl2 hend fun h' hk => hQ h' fun c o c1 _ c3 c4 e => hk c o c1 c3 c4 e
/-- zip has no length to hint at -/
theorem zip_hint {Q : Bool → Shared → Prop} (hT : s.TypeIs (.ref z) "zip") (h : Q true s) : wpAny (model prog w) A (Builtin.List.listLengthHint (.ref z)) Q E s := by
  have e1 : typeLookup (.type "zip") "__len__" = pure none := am_miss_of_fast (by decide +kernel)
  have e2 : typeLookup (.type "zip") "__length_hint__" = pure none := am_miss_of_fast (by decide +kernel)
  unfold Builtin.List.listLengthHint
  refine wpAny_bind (wpAny_specialOf hT e1 ?_)
  show wpAny _ A (specialOf (Value.ref z) (Str.ofString "__length_hint__") >>= _) _ _ _
  exact wpAny_bind (wpAny_specialOf hT e2 (wpAny_pure h))
end

/-- the tuples made: above S, rising, each a pair -/
structure Made (xs ys : Array Value) (S : Addr) (h : Heap) (as : List Addr) : Prop where
  rise : as.Pairwise (· < ·)
  above : ∀ a ∈ as, S < a
  pair : ∀ (j : Nat) (a : Addr), as[j]? = some a → ∃ x y, xs[j]? = some x ∧ ys[j]? = some y ∧ h.get? a = some { cls := .type "tuple", data := .seq #[x, y] }
section
variable {prog : Program} {w : World} {A : Around} {s : Shared} {R : Result → Shared → Prop} {z TI TO i1 i2 l1 l2 S : Addr} {xs ys : Array Value}
theorem Made.lt {h : Heap} {as : List Addr} (m : Made xs ys S h as) {a : Addr} (ha : a ∈ as) : a < h.objs.size := by
  obtain ⟨j, hj⟩ := List.mem_iff_getElem?.mp ha
  obtain ⟨_, _, _, _, e⟩ := m.pair j a hj
  exact Heap.lt_size e
theorem lz_loop (hh : A.handled = none) (D : ZipApart z TI TO i1 i2 l1 l2) (hS : z < S ∧ TI < S ∧ TO < S ∧ i1 < S ∧ i2 < S ∧ l1 < S ∧ l2 < S) (hxy : xs.size = ys.size) (hn : xs.size ≤ sizeLine) (res : Value) {h₁ : Heap}
    (hR : ∀ h' tk acc c as, (∀ b o, b ≠ S → b ≠ z → b ≠ TO → b ≠ i1 → b ≠ i2 → h₁.get? b = some o → h'.get? b = some o) → h'.get? S = some { cls := .type "list", dict := none, data := .seq acc c, slots := #[] } →
      as.length = xs.size → Made xs ys S h' as → acc.toList = as.map Value.ref → R (.ok (.ret res)) { s with heap := h', toks := tk }) :
    ∀ (k i : Nat) (h : Heap) (tk c : Nat) (acc : Array Value) (as : List Addr), xs.size - i = k → i ≤ xs.size → ZSt z TI TO i1 i2 l1 l2 xs ys S i h →
      (∀ b o, b ≠ S → b ≠ z → b ≠ TO → b ≠ i1 → b ≠ i2 → h₁.get? b = some o → h.get? b = some o) → h.get? S = some { cls := .type "list", dict := none, data := .seq acc c, slots := #[] } →
      acc.toList = as.map Value.ref → as.length = i → Made xs ys S h as →
      codeAny (model prog w) A (.builtin "list.extend.loop" ⟨[.ref S, .ref z, res], []⟩) R { s with heap := h, toks := tk } := by
  obtain ⟨s1, s2, s3, s4, s5, s6, s7⟩ := hS
  have nS : S ≠ z ∧ S ≠ TI ∧ S ≠ TO ∧ S ≠ i1 ∧ S ≠ i2 ∧ S ≠ l1 ∧ S ≠ l2 := ⟨Nat.ne_of_gt s1, Nat.ne_of_gt s2, Nat.ne_of_gt s3, Nat.ne_of_gt s4, Nat.ne_of_gt s5, Nat.ne_of_gt s6, Nat.ne_of_gt s7⟩
  have far : ∀ a : Addr, S < a → a ≠ z ∧ a ≠ TO ∧ a ≠ i1 ∧ a ≠ i2 ∧ a ≠ S := fun a ha => ⟨Nat.ne_of_gt (Nat.lt_trans s1 ha), Nat.ne_of_gt (Nat.lt_trans s3 ha), Nat.ne_of_gt (Nat.lt_trans s4 ha), Nat.ne_of_gt (Nat.lt_trans s5 ha), Nat.ne_of_gt ha⟩
  intro k
  induction k with
  | zero =>
    intro i h tk c acc as hk hi st hkeep hSl hacc hal M
    refine codeAny_builtin PySem.F.entry_extend_loop ?_
    rw [Around.under_plainId PySem.F.plain_extend_loop _]
    show wpAny _ A.in1 (pyNext (.ref z) >>= _) _ _ _
    refine wpAny_bind (zs_done (s := { s with heap := h, toks := tk }) (A := A.in1) D hh st (.inl (Array.getElem?_eq_none (by omega))) fun h' he => ?_)
    refine wpAny_pure (hR h' tk acc c as (fun b o b1 b2 b3 b4 b5 e => he b o b2 b3 b4 b5 (hkeep b o b1 b2 b3 b4 b5 e)) (he S _ nS.1 nS.2.2.1 nS.2.2.2.1 nS.2.2.2.2.1 hSl) (by omega) ⟨M.rise, M.above, fun j a hj => ?_⟩ hacc)
    obtain ⟨x, y, e1, e2, e3⟩ := M.pair j a hj
    have f := far a (M.above a (List.mem_of_getElem? hj))
    exact ⟨x, y, e1, e2, he a _ f.1 f.2.1 f.2.2.1 f.2.2.2.1 e3⟩
  | succ k ih =>
    intro i h tk c acc as hk hi st hkeep hSl hacc hal M
    have hlt : i < xs.size := by omega
    have hly : i < ys.size := by omega
    have hsz : acc.size = i := by rw [← Array.length_toList, hacc, List.length_map, hal]
    refine codeAny_builtin PySem.F.entry_extend_loop ?_
    rw [Around.under_plainId PySem.F.plain_extend_loop _]
    show wpAny _ A.in1 (pyNext (.ref z) >>= _) _ _ _
    have hSsz : S < h.objs.size := Heap.lt_size hSl
    refine wpAny_bind (zs_item (s := { s with heap := h, toks := tk }) D st hSsz (Array.getElem?_eq_getElem hlt) (Array.getElem?_eq_getElem hly) fun h' st' ht hz hkp => ?_)
    dsimp only at ht hz hkp ⊢
    have hS' := hkp S _ nS.1 nS.2.2.1 nS.2.2.2.1 nS.2.2.2.2.1 hSl
    have up : ∀ b o, b ≠ S → h'.get? b = some o → (h'.update S (Obj.mapSeq (·.push (Value.ref h.objs.size)))).get? b = some o := fun b o hb e => (Heap.get?_update_other _ _ (Ne.symm hb)).trans e
    show wpAny _ A.in1 (updateSeq S (·.push (Value.ref h.objs.size)) >>= _) _ _ _
    refine wpAny_bind ?_
    refine wpAny_updateSeq hS' rfl (wpAny_pure ⟨plainId_quiet PySem.F.plain_extend_loop _, ih (i + 1) _ tk _ (acc.push (Value.ref h.objs.size)) (as ++ [h.objs.size]) (by omega) hlt (st'.off D nS up)
      (fun b o b1 b2 b3 b4 b5 e => up b o b1 (hkp b o b2 b3 b4 b5 (hkeep b o b1 b2 b3 b4 b5 e))) (Heap.get?_update_self _ hS' rfl) (by rw [Array.toList_push, hacc, List.map_append]; rfl) (by rw [List.length_append, hal]; rfl) ⟨?_, ?_, ?_⟩⟩) (by rw [hsz]; omega) (by show (acc.push (Value.ref h.objs.size)).size ≤ sizeLine + 1; rw [Array.size_push, hsz]; omega)
    · refine List.pairwise_append.mpr ⟨M.rise, List.pairwise_singleton _ _, fun a ha b hb => ?_⟩
      rw [List.mem_singleton.mp hb]
      exact M.lt ha
    · intro a ha
      rcases List.mem_append.mp ha with ha | ha
      · exact M.above a ha
      · rw [List.mem_singleton.mp ha]
        exact hSsz
    · intro j b hj
      by_cases h1 : j < as.length
      · rw [List.getElem?_append_left h1] at hj
        obtain ⟨x, y, e1, e2, e3⟩ := M.pair j b hj
        have f := far b (M.above b (List.mem_of_getElem? hj))
        exact ⟨x, y, e1, e2, up b _ f.2.2.2.2 (hkp b _ f.1 f.2.1 f.2.2.1 f.2.2.2.1 e3)⟩
      · rw [List.getElem?_append_right (by omega)] at hj
        have hj0 : j - as.length = 0 := by
          by_cases q : j - as.length = 0
          · exact q
          · rw [List.getElem?_eq_none (by simp; omega)] at hj
            cases hj
        rw [hj0] at hj
        have hb : h.objs.size = b := Option.some.inj hj
        have hji : j = i := by omega
        subst hb
        subst hji
        exact ⟨_, _, Array.getElem?_eq_getElem hlt, Array.getElem?_eq_getElem hly, up _ _ (Nat.ne_of_gt hSsz) ht⟩
end
section
variable {prog : Program} {w : World} {A : Around} {E : Value → Shared → Prop} {s : Shared} {z TI TO i1 i2 l1 l2 : Addr} {xs ys : Array Value}
theorem lz_call {Q : Value → Shared → Prop} (hh : A.handled = none) (D : ZipApart z TI TO i1 i2 l1 l2) (hS : z < s.heap.objs.size ∧ TI < s.heap.objs.size ∧ TO < s.heap.objs.size ∧ i1 < s.heap.objs.size ∧ i2 < s.heap.objs.size ∧ l1 < s.heap.objs.size ∧ l2 < s.heap.objs.size)
    (hxy : xs.size = ys.size) (hn : xs.size ≤ sizeLine) (hz : IsZip s.heap z TI TO .none) (hTO : ∃ a b, IsPair s.heap TO a b) (hTI : IsPair s.heap TI (.ref i1) (.ref i2)) (h1 : s.heap.IsListIter i1 l1 0) (h2 : s.heap.IsListIter i2 l2 0) (hl1 : s.heap.IsList l1 xs) (hl2 : s.heap.IsList l2 ys)
    (hQ : ∀ h' tk acc c as, (∀ b o, b ≠ z → b ≠ TO → b ≠ i1 → b ≠ i2 → s.heap.get? b = some o → h'.get? b = some o) → h'.get? s.heap.objs.size = some { cls := .type "list", dict := none, data := .seq acc c, slots := #[] } →
      as.length = xs.size → Made xs ys s.heap.objs.size h' as → acc.toList = as.map Value.ref → Q (.ref s.heap.objs.size) { s with heap := h', toks := tk }) :
    wpAny (model prog w) A (call (.type "list") [.ref z]) Q E s := by
  refine callType_codes (Q₁ := fun obj s₁ => obj = .ref s.heap.objs.size ∧ s₁ = { s with heap := s.heap.push { cls := .type "list", data := .seq #[] } }) PySem.F.called_list (PySem.F.typeCall_list_1 _) PySem.F.entry_list_init
    (code_list_new _ ⟨rfl, rfl⟩) fun obj s₁ h₁ => ?_
  obtain ⟨rfl, rfl⟩ := h₁
  have hSl : (s.heap.push { cls := .type "list", data := .seq #[] }).get? s.heap.objs.size = some { cls := .type "list", data := .seq #[] } := Heap.get?_push_size _ rfl
  have pu : ∀ b o, s.heap.get? b = some o → (s.heap.push { cls := .type "list", data := .seq #[] }).get? b = some o := fun b o e => Heap.get?_push_of_some _ e
  refine ⟨⟨_, hSl, rfl⟩, PySem.F.args_list_init_2 _ _, ?_⟩
  have nz : s.heap.objs.size ≠ z := Nat.ne_of_gt hS.1
  -- from an empty list at S, all else as it was
  have key : ∀ (h : Heap) (c₁ tk : Nat), (∀ b o, b ≠ s.heap.objs.size → s.heap.get? b = some o → h.get? b = some o) → h.get? s.heap.objs.size = some { cls := .type "list", data := .seq #[] c₁ } →
      codeAny (model prog w) A.in1 (.builtin "list.extend.loop" ⟨[.ref s.heap.objs.size, .ref z, .none], []⟩) (fun r s' => ∃ h' tk acc c as, r = .ok (.ret .none) ∧ s' = { s with heap := h', toks := tk } ∧ (∀ b o, b ≠ z → b ≠ TO → b ≠ i1 → b ≠ i2 → s.heap.get? b = some o → h'.get? b = some o) ∧
        h'.get? s.heap.objs.size = some { cls := .type "list", dict := none, data := .seq acc c, slots := #[] } ∧ as.length = xs.size ∧ Made xs ys s.heap.objs.size h' as ∧ acc.toList = as.map Value.ref) { s with heap := h, toks := tk } := by
    intro h c₁ tk hk hS₁
    have lt : ∀ {a : Addr}, a < s.heap.objs.size → a ≠ s.heap.objs.size := fun q => Nat.ne_of_lt q
    obtain ⟨a, b, hTO⟩ := hTO
    have st : ZSt z TI TO i1 i2 l1 l2 xs ys s.heap.objs.size 0 h := ⟨hk _ _ (lt hS.2.1) hTI, h1.at fun o e => hk _ o (lt hS.2.2.2.1) e, h2.at fun o e => hk _ o (lt hS.2.2.2.2.1) e, hl1.at fun o e => hk _ o (lt hS.2.2.2.2.2.1) e, hl2.at fun o e => hk _ o (lt hS.2.2.2.2.2.2) e,
      .inl ⟨hk _ _ (lt hS.1) hz, a, b, hk _ _ (lt hS.2.2.1) hTO⟩⟩
    refine lz_loop (A := A.in1) (s := s) (h₁ := s.heap) hh D hS hxy hn .none (fun h' tk' acc c as q1 q2 q3 q4 q5 => ⟨h', tk', acc, c, as, rfl, rfl, fun b o b1 b2 b3 b4 e => q1 b o (Nat.ne_of_lt (Heap.lt_size e)) b1 b2 b3 b4 e, q2, q3, q4, q5⟩)
      xs.size 0 h tk c₁ #[] [] (Nat.sub_zero _) (Nat.zero_le _) st (fun b o b1 _ _ _ _ e => hk b o b1 e) hS₁ rfl rfl ⟨List.Pairwise.nil, (fun _ ha => by simp at ha), fun j a hj => by simp at hj⟩
  show wpAny _ _ (do let old ← Builtin.List.listItems (.ref s.heap.objs.size); Builtin.List.listUpdate (.ref s.heap.objs.size) (fun _ => #[]); letGo old.toList.reverse; Builtin.List.listExtendWith (.ref s.heap.objs.size) (.ref z) .none) _ _ _
  refine wpAny_bind ?_
  unfold Builtin.List.listItems
  refine wpAny_bind (wpAny_seqItems hSl rfl (wpAny_pure ?_))
  show wpAny _ _ (updateSeq s.heap.objs.size (fun _ => #[]) >>= fun _ => letGo (#[] : Array Value).toList.reverse >>= fun _ => Builtin.List.listExtendWith (.ref s.heap.objs.size) (.ref z) .none) _ _ _
  refine wpAny_bind (wpAny_updateSeq hSl rfl ?_)
  have hS₂ := Heap.get?_update_self (Obj.mapSeq (fun _ => (#[] : Array Value))) hSl rfl
  have oth : ∀ b o, b ≠ s.heap.objs.size → s.heap.get? b = some o → ((s.heap.push { cls := .type "list", data := .seq #[] }).update s.heap.objs.size (Obj.mapSeq (fun _ => (#[] : Array Value)))).get? b = some o :=
    fun b o hb e => (Heap.get?_update_other _ _ (Ne.symm hb)).trans (pu b o e)
  refine wpAny_bind (wpAny_letGo ?_)
  unfold Builtin.List.listExtendWith
  have hTy : ∀ (h : Heap) (tk : Nat), h.get? z = s.heap.get? z → ({ s with heap := h, toks := tk } : Shared).TypeIs (.ref z) "zip" := fun h tk e => ⟨_, e.trans hz, rfl⟩
  have hz2 := oth z _ (Nat.ne_of_lt hS.1) hz
  refine wpAny_bind (wpAny_typeOf (T := "zip") ⟨_, hz2, rfl⟩ ?_)
  have g1 : Builtin.List.listSameRef (.ref s.heap.objs.size) (.ref z) = false := by simp [Builtin.List.listSameRef, nz]
  have g2 : (Value.type "zip" == Value.type "list") = false := by decide
  have g3 : (Value.type "zip" == Value.type "tuple") = false := by decide
  simp only [g1, g2, g3, Bool.or_false, Bool.false_eq_true, if_false]
  refine wpAny_bind (wpAny_pyIter_zip hz2 ?_)
  refine wpAny_bind (wpAny_holding (zip_hint ⟨_, hz2, rfl⟩ ?_))
  simp only [Bool.true_or, if_true]
  refine wpAny_bind (wpAny_rule ?_)
  refine wpAny_bind ?_
  show wpAny _ _ (updateSeq s.heap.objs.size (·.push .none) >>= fun _ => updateSeq s.heap.objs.size (·.pop)) _ _ _
  refine wpAny_bind (wpAny_updateSeq hS₂ rfl ?_)
  have hS₃ := Heap.get?_update_self (Obj.mapSeq (·.push Value.none)) hS₂ rfl
  refine wpAny_updateSeq (hz := by seq_fits) hS₃ rfl ?_
  have hS₄ := Heap.get?_update_self (Obj.mapSeq (·.pop)) hS₃ rfl
  refine wpAny_pure ⟨plainId_quiet PySem.F.plain_extend_loop _, codeAny_mono (key _ _ _ (fun b o hb e => ?_) hS₄) ?_⟩
  · exact (Heap.get?_update_other _ _ (Ne.symm hb)).trans ((Heap.get?_update_other _ _ (Ne.symm hb)).trans (oth b o hb e))
  · rintro r s' ⟨h', tk, acc, c, as, rfl, rfl, q1, q2, q3, q4, q5⟩
    exact ⟨rfl, hQ h' tk acc c as q1 q2 q3 q4 q5⟩
end

/-! over the layer -/
def putP : Hp → List Addr → List (V × V) → Hp
  | H, a :: as, p :: ps => putP (upd H a (.tup [p.1, p.2])) as ps
  | H, _, _ => H
theorem putP_off {b : Addr} : ∀ (as : List Addr) (ps : List (V × V)) (H : Hp), b ∉ as → putP H as ps b = H b
  | [], _, _, _ => rfl
  | _ :: _, [], _, _ => rfl
  | a :: as, p :: ps, H, h => by
    have h' : b ≠ a ∧ b ∉ as := by simpa using h
    show putP (upd H a (.tup [p.1, p.2])) as ps b = H b
    rw [putP_off as ps _ h'.2, upd_ne h'.1]
theorem putP_at : ∀ (as : List Addr) (ps : List (V × V)) (H : Hp) (i : Nat) (a : Addr) (p : V × V), as.Nodup → as[i]? = some a → ps[i]? = some p → putP H as ps a = some (.tup [p.1, p.2])
  | [], _, _, _, _, _, _, h, _ => by simp at h
  | _ :: _, [], _, _, _, _, _, _, h => by simp at h
  | a :: as, p :: ps, H, 0, b, q, hn, h1, h2 => by
    have e1 : a = b := Option.some.inj h1
    have e2 : p = q := Option.some.inj h2
    subst e1 e2
    show putP (upd H a (.tup [p.1, p.2])) as ps a = _
    rw [putP_off as ps _ (List.nodup_cons.mp hn).1, upd_same]
  | a :: as, p :: ps, H, i + 1, b, q, hn, h1, h2 => putP_at as ps (upd H a (.tup [p.1, p.2])) i b q (List.nodup_cons.mp hn).2 h1 h2
def tListZip (K : PySem.W.Frag) (ta : TA) : TE := fun σ H Q => ta σ H fun vs H1 => ∃ a b xs ys, vs = [.ref a, .ref b] ∧ SqL K H1 a xs ∧ SqL K H1 b ys ∧ xs.length = ys.length ∧ xs.length ≤ sizeLine ∧
  ∀ (H' : Hp) (p : Addr) (ts : List Addr), Same H1 H' → H1 p = none → H' p = some (.lst (ts.map V.ref)) → ts.length = xs.length → (∀ t ∈ ts, H1 t = none) →
    (∀ (i : Nat) (t : Addr), ts[i]? = some t → ∃ x y, xs[i]? = some x ∧ ys[i]? = some y ∧ H' t = some (.tup [x, y])) → Q (.ref p) H'
theorem vals_refs' : ∀ as : List Addr, Vals (as.map V.ref) (as.map Value.ref)
  | [] => .nil
  | _ :: as => .cons rfl (vals_refs' as)
section
variable {X : Cx} {e e2 : Expr} {ta : TA} {p p2 pos pos2 : Pos}
theorem pe_listZip (hg : Gl X "list") (hm : X.mg "list" = none) (hg2 : Gl X "zip") (hm2 : X.mg "zip" = none) (hc : X.calm = true) (ha : PA X [e, e2] ta)
    (hs : starEach [e, e2] X.env = (false, eval e X.env) :: starEach [e2] X.env := by rfl) (hpl : (backTo pos2 (starEach [e2] X.env)).any (·.1) = false := by rfl)
    (na : starEach [.Call (.Name "zip" p2) [e, e2] [] pos2] X.env = (false, eval (.Call (.Name "zip" p2) [e, e2] [] pos2) X.env) :: starEach [] X.env := by rfl) :
    PE X (.Call (.Name "list" p) [.Call (.Name "zip" p2) [e, e2] [] pos2] [] pos) (tListZip X.K ta) := by
  refine ⟨fun pins s σ H Q I h => ?_⟩
  refine Call_ (ld_blt I hg hm boot_list (PyProof.Rows.callWith_type1 (args_cons ?_ na) na rfl))
  refine Call_ (ld_blt I hg2 hm2 PyProof.Rows.boot_zip (PyProof.Rows.callWith_type1 (thn (ha.run pos2 pins s σ H _ I h) fun us s1 ⟨vs, H1, I1, r1, q1⟩ => ?_) hs hpl))
  obtain ⟨a, b, xs, ys, ex, hqx, hqy, hl, hz, q⟩ := q1
  subst ex
  obtain ⟨u1, u2, rfl, r1, r2⟩ := vals2 r1
  obtain rfl : u1 = Value.ref a := r1
  obtain rfl : u2 = Value.ref b := r2
  obtain ⟨its, rv, p1, _⟩ := I1.list hqx
  obtain ⟨its2, rv2, p2, _⟩ := I1.list hqy
  have l1 := rv.length
  have l2 := rv2.length
  refine call_zip_2 p1.isList p2.isList fun h' hz' hTI hTO h1 h2 hsz hk => args_nil ?_
  have la := p1.lt
  have lb := p2.lt
  refine lz_call (s := { s1 with heap := h' }) (xs := its.toArray) (ys := its2.toArray) (I1.ok.hd hc) (PySem.W.ktu_apart s1.heap.objs.size a b la lb) ?_ (by simp; omega) (by simp; omega) hz' ⟨_, _, hTO⟩ hTI h1 h2 (p1.isList.at fun o e => hk _ o e) (p2.isList.at fun o e => hk _ o e) fun g tk acc c as k1 k2 k3 k4 k5 => ?_
  · show _ < h'.objs.size ∧ _ < h'.objs.size ∧ _ < h'.objs.size ∧ _ < h'.objs.size ∧ _ < h'.objs.size ∧ _ < h'.objs.size ∧ _ < h'.objs.size
    rw [hsz]
    have la' : (a : Nat) < s1.heap.objs.size := la
    have lb' : (b : Nat) < s1.heap.objs.size := lb
    refine ⟨?_, ?_, ?_, ?_, ?_, ?_, ?_⟩
    · exact Nat.lt_succ_self _
    · exact Nat.add_lt_add_left (by decide) _
    · exact Nat.add_lt_add_left (by decide) _
    · exact Nat.lt_add_of_pos_right (by decide)
    · exact Nat.add_lt_add_left (by decide) _
    · exact Nat.lt_of_lt_of_le la' (Nat.le_add_right _ _)
    · exact Nat.lt_of_lt_of_le lb' (Nat.le_add_right _ _)
  dsimp only at k1 k2 k4
  have old : ∀ c o, s1.heap.get? c = some o → g.get? c = some o := fun c o ec => by
    have lc : c < s1.heap.objs.size := Heap.lt_size ec
    have lt : ∀ n : Nat, c ≠ s1.heap.objs.size + n := fun n => Nat.ne_of_lt (Nat.lt_of_lt_of_le lc (Nat.le_add_right _ _))
    exact k1 c o (lt 4) (lt 3) (lt 0) (lt 1) (hk c o ec)
  have hle : s1.heap.objs.size ≤ h'.objs.size := by rw [hsz]; exact Nat.le_add_right _ _
  have nd : as.Nodup := k4.rise.imp fun {a b} h => Nat.ne_of_lt h
  have newS : H1 h'.objs.size = none := I1.hok.fresh hle
  have new : ∀ t ∈ as, H1 t = none := fun t ht => I1.hok.fresh (Nat.le_trans hle (Nat.le_of_lt (k4.above t ht)))
  have hSn : h'.objs.size ∉ as := fun z => Nat.lt_irrefl _ (k4.above _ z)
  have kp : ∀ d u, H1 d = some u → putP (upd H1 h'.objs.size (.lst (as.map V.ref))) as (xs.zip ys) d = some u := fun d u ed => by
    rw [putP_off _ _ _ (fun z => by rw [new d z] at ed; cases ed), upd_ne (fun z => by rw [z, newS] at ed; cases ed)]
    exact ed
  have eS : putP (upd H1 h'.objs.size (.lst (as.map V.ref))) as (xs.zip ys) h'.objs.size = some (.lst (as.map V.ref)) := by rw [putP_off _ _ _ hSn, upd_same]
  have hlen : as.length = xs.length := by rw [k3, List.size_toArray]; omega
  have atI' : ∀ (i : Nat) (t : Addr), as[i]? = some t → ∃ x y, xs[i]? = some x ∧ ys[i]? = some y ∧ putP (upd H1 h'.objs.size (.lst (as.map V.ref))) as (xs.zip ys) t = some (.tup [x, y]) := fun i t ht => by
    have hi : i < xs.length := by rw [← hlen]; exact (List.getElem?_eq_some_iff.mp ht).1
    have hi2 : i < ys.length := by omega
    exact ⟨xs[i], ys[i], List.getElem?_eq_getElem hi, List.getElem?_eq_getElem hi2, putP_at as (xs.zip ys) _ i t (xs[i], ys[i]) nd ht (by
      rw [List.getElem?_zip_eq_some]
      exact ⟨List.getElem?_eq_getElem hi, List.getElem?_eq_getElem hi2⟩)⟩
  refine ⟨.ref h'.objs.size, putP (upd H1 h'.objs.size (.lst (as.map V.ref))) as (xs.zip ys), ?_, rfl, q _ _ as kp newS eS hlen new atI'⟩
  refine I1.call' (ch := []) rfl ⟨fun b o q _ _ _ => old b o q, fun b o q _ _ _ => ⟨o.slots, old b o q⟩, fun b o q n _ => ?_, fun b o q _ => ⟨o, old b o q⟩, fun b xs q => kp b _ q, fun b o u q => kp b _ q, fun b ps q => ⟨#[], by rw [kp b _ q]; simp⟩⟩ (fun d u q => ?_) I1.bare fun b z => by simp at z
  · have lb' : b < s1.heap.objs.size := Heap.lt_size q
    rw [putP_off _ _ _ fun z => absurd (Nat.lt_of_lt_of_le lb' hle) (Nat.not_lt.mpr (Nat.le_of_lt (k4.above b z))), upd_ne (Nat.ne_of_lt (Nat.lt_of_lt_of_le lb' hle))]
    exact n
  · by_cases hd : d ∈ as
    · obtain ⟨i, hi⟩ := List.mem_iff_getElem?.mp hd
      obtain ⟨x, y, e1, e2, e3⟩ := atI' i d hi
      rw [e3] at q
      cases q
      obtain ⟨x', y', f1, f2, f3⟩ := k4.pair i d hi
      obtain ⟨v1, g1, rx⟩ := rv.get e1
      obtain ⟨v2, g2, ry⟩ := rv2.get e2
      have ex : v1 = x' := Option.some.inj (g1.symm.trans (by simpa using f1))
      have ey : v2 = y' := Option.some.inj (g2.symm.trans (by simpa using f2))
      subst ex ey
      exact ⟨by show 2 ≤ sizeLine; decide, [v1, v2], .cons rx (.cons ry .nil), ⟨_, f3, rfl, _, rfl⟩⟩
    · by_cases hd2 : d = h'.objs.size
      · subst hd2
        rw [eS] at q
        cases q
        refine ⟨by rw [List.length_map]; omega, acc.toList, c, by rw [k5]; exact vals_refs' as, ?_⟩
        rw [Array.toArray_toList]
        exact k2
      · rw [putP_off _ _ _ hd, upd_ne hd2] at q
        exact (I1.hok d u q).stay (fun d v _ y => old d v y) (fun d y => kp d _ y) fun d xs y => kp d _ y
end
end PH

/-! The text by places, its names by slot, what the walks ask of the top, short words of my own. -/
namespace PH
open PySem PySem.Spec PyProof.Rows L2

def topS (i : Nat) : Stmt := PySem.Challenge.pw_pacehall_k76_whole_none_of_all_orders.main.body.getD i (.Pass ⟨0, 0, 0, 0⟩)
abbrev s_is_whole : Stmt := topS 10
abbrev N_is_whole : List Str := ["thing"]
theorem sc_is_whole : FnScope N_is_whole ["thing"] (defScope s_is_whole) := ⟨rfl, rfl, rfl, by decide +kernel, rfl, by decide +kernel, by decide +kernel⟩
abbrev s_count_of : Stmt := topS 13
abbrev N_count_of : List Str := ["sizes", "found", "size"]
theorem sc_count_of : FnScope N_count_of ["sizes"] (defScope s_count_of) := ⟨rfl, rfl, rfl, by decide +kernel, rfl, by decide +kernel, by decide +kernel⟩
abbrev s_paces_of : Stmt := topS 14
abbrev N_paces_of : List Str := ["sizes", "found", "pace", "size"]
theorem sc_paces_of : FnScope N_paces_of ["sizes"] (defScope s_paces_of) := ⟨rfl, rfl, rfl, by decide +kernel, rfl, by decide +kernel, by decide +kernel⟩
abbrev s_need_place : Stmt := topS 15
abbrev N_need_place : List Str := ["sizes", "place", "size", "at"]
theorem sc_need_place : FnScope N_need_place ["sizes", "place"] (defScope s_need_place) := ⟨rfl, rfl, rfl, by decide +kernel, rfl, by decide +kernel, by decide +kernel⟩
abbrev s_number_of : Stmt := topS 16
abbrev N_number_of : List Str := ["sizes", "place", "at", "pace"]
theorem sc_number_of : FnScope N_number_of ["sizes", "place"] (defScope s_number_of) := ⟨rfl, rfl, rfl, by decide +kernel, rfl, by decide +kernel, by decide +kernel⟩
abbrev s_place_at : Stmt := topS 17
abbrev N_place_at : List Str := ["sizes", "number", "found", "pace", "at"]
theorem sc_place_at : FnScope N_place_at ["sizes", "number"] (defScope s_place_at) := ⟨rfl, rfl, rfl, by decide +kernel, rfl, by decide +kernel, by decide +kernel⟩
abbrev s_places : Stmt := topS 18
abbrev N_places : List Str := ["sizes", "count", "found", "size", "longer", "place", "at"]
theorem sc_places : FnScope N_places ["sizes"] (defScope s_places) := ⟨rfl, rfl, rfl, by decide +kernel, rfl, by decide +kernel, by decide +kernel⟩
abbrev s_is_axis : Stmt := topS 24
abbrev N_is_axis : List Str := ["thing"]
theorem sc_is_axis : FnScope N_is_axis ["thing"] (defScope s_is_axis) := ⟨rfl, rfl, rfl, by decide +kernel, rfl, by decide +kernel, by decide +kernel⟩
abbrev s_kept_axes : Stmt := topS 25
abbrev N_kept_axes : List Str := ["axes", "found", "axis"]
theorem sc_kept_axes : FnScope N_kept_axes ["axes"] (defScope s_kept_axes) := ⟨rfl, rfl, rfl, by decide +kernel, rfl, by decide +kernel, by decide +kernel⟩
abbrev s_v_init : Stmt := inClass (topS 26) 0
abbrev N_v_init : List Str := ["self", "room", "first", "axes"]
theorem sc_v_init : FnScope N_v_init ["self", "room", "first", "axes"] (defScope s_v_init) := ⟨rfl, rfl, rfl, by decide +kernel, rfl, by decide +kernel, by decide +kernel⟩
abbrev s_v_sizes : Stmt := inClass (topS 26) 1
abbrev N_v_sizes : List Str := ["self", "size", "pace"]
theorem sc_v_sizes : FnScope N_v_sizes ["self"] (defScope s_v_sizes) := ⟨rfl, rfl, rfl, by decide +kernel, rfl, by decide +kernel, by decide +kernel⟩
abbrev s_v_paces : Stmt := inClass (topS 26) 2
abbrev N_v_paces : List Str := ["self", "size", "pace"]
theorem sc_v_paces : FnScope N_v_paces ["self"] (defScope s_v_paces) := ⟨rfl, rfl, rfl, by decide +kernel, rfl, by decide +kernel, by decide +kernel⟩
abbrev s_v_count : Stmt := inClass (topS 26) 3
abbrev N_v_count : List Str := ["self"]
theorem sc_v_count : FnScope N_v_count ["self"] (defScope s_v_count) := ⟨rfl, rfl, rfl, by decide +kernel, rfl, by decide +kernel, by decide +kernel⟩
abbrev s_v_cell : Stmt := inClass (topS 26) 4
abbrev N_v_cell : List Str := ["self", "place", "at", "pace"]
theorem sc_v_cell : FnScope N_v_cell ["self", "place"] (defScope s_v_cell) := ⟨rfl, rfl, rfl, by decide +kernel, rfl, by decide +kernel, by decide +kernel⟩
abbrev s_v_cells : Stmt := inClass (topS 26) 6
abbrev N_v_cells : List Str := ["self", "found", "size", "pace", "longer", "cell", "at"]
theorem sc_v_cells : FnScope N_v_cells ["self"] (defScope s_v_cells) := ⟨rfl, rfl, rfl, by decide +kernel, rfl, by decide +kernel, by decide +kernel⟩
abbrev s_v_least : Stmt := inClass (topS 26) 7
abbrev N_v_least : List Str := ["self", "size", "pace"]
theorem sc_v_least : FnScope N_v_least ["self"] (defScope s_v_least) := ⟨rfl, rfl, rfl, by decide +kernel, rfl, by decide +kernel, by decide +kernel⟩
abbrev s_v_greatest : Stmt := inClass (topS 26) 8
abbrev N_v_greatest : List Str := ["self", "size", "pace"]
theorem sc_v_greatest : FnScope N_v_greatest ["self"] (defScope s_v_greatest) := ⟨rfl, rfl, rfl, by decide +kernel, rfl, by decide +kernel, by decide +kernel⟩
abbrev s_need_few : Stmt := topS 29
abbrev N_need_few : List Str := ["sizes", "count"]
theorem sc_need_few : FnScope N_need_few ["sizes"] (defScope s_need_few) := ⟨rfl, rfl, rfl, by decide +kernel, rfl, by decide +kernel, by decide +kernel⟩
abbrev s_need_alike : Stmt := topS 30
abbrev N_need_alike : List Str := ["to", "source"]
theorem sc_need_alike : FnScope N_need_alike ["to", "source"] (defScope s_need_alike) := ⟨rfl, rfl, rfl, by decide +kernel, rfl, by decide +kernel, by decide +kernel⟩
abbrev s_has_twice : Stmt := topS 33
abbrev N_has_twice : List Str := ["view", "seen", "number", "cell"]
theorem sc_has_twice : FnScope N_has_twice ["view"] (defScope s_has_twice) := ⟨rfl, rfl, rfl, by decide +kernel, rfl, by decide +kernel, by decide +kernel⟩
abbrev s_need_once : Stmt := topS 35
abbrev N_need_once : List Str := ["to", "found"]
theorem sc_need_once : FnScope N_need_once ["to"] (defScope s_need_once) := ⟨rfl, rfl, rfl, by decide +kernel, rfl, by decide +kernel, by decide +kernel⟩
abbrev s_pairs_between : Stmt := topS 36
abbrev N_pairs_between : List Str := ["to", "source", "writes", "place", "found", "cell", "written"]
theorem sc_pairs_between : FnScope N_pairs_between ["to", "source"] (defScope s_pairs_between) := ⟨rfl, rfl, rfl, by decide +kernel, rfl, by decide +kernel, by decide +kernel⟩
abbrev s_bound_pairs : Stmt := topS 37
abbrev N_bound_pairs : List Str := ["to", "source"]
theorem sc_bound_pairs : FnScope N_bound_pairs ["to", "source"] (defScope s_bound_pairs) := ⟨rfl, rfl, rfl, by decide +kernel, rfl, by decide +kernel, by decide +kernel⟩
abbrev s_gaps : Stmt := topS 39
abbrev N_gaps : List Str := ["some", "axis", "pair"]
theorem sc_gaps : FnScope N_gaps ["some", "axis"] (defScope s_gaps) := ⟨rfl, rfl, rfl, by decide +kernel, rfl, by decide +kernel, by decide +kernel⟩
abbrev s_way_along : Stmt := topS 40
abbrev N_way_along : List Str := ["some", "axis", "found"]
theorem sc_way_along : FnScope N_way_along ["some", "axis"] (defScope s_way_along) := ⟨rfl, rfl, rfl, by decide +kernel, rfl, by decide +kernel, by decide +kernel⟩
abbrev s_barring : Stmt := topS 41
abbrev N_barring : List Str := ["some", "axes", "found", "axis", "gap", "pair"]
theorem sc_barring : FnScope N_barring ["some", "axes"] (defScope s_barring) := ⟨rfl, rfl, rfl, by decide +kernel, rfl, by decide +kernel, by decide +kernel⟩
abbrev s_loop_order : Stmt := topS 42
abbrev N_loop_order : List Str := ["to", "source", "left", "axes", "order", "taken", "known", "axis", "pair", "row"]
theorem sc_loop_order : FnScope N_loop_order ["to", "source"] (defScope s_loop_order) := ⟨rfl, rfl, rfl, by decide +kernel, rfl, by decide +kernel, by decide +kernel⟩
abbrev s_is_bound : Stmt := topS 43
abbrev N_is_bound : List Str := ["sizes", "known", "thing", "place"]
theorem sc_is_bound : FnScope N_is_bound ["sizes", "known", "thing"] (defScope s_is_bound) := ⟨rfl, rfl, rfl, by decide +kernel, rfl, by decide +kernel, by decide +kernel⟩
abbrev s_bars : Stmt := topS 44
abbrev N_bars : List Str := ["to", "source", "some", "known", "pair", "sizes", "thing", "axis", "found"]
theorem sc_bars : FnScope N_bars ["to", "source", "some"] (defScope s_bars) := ⟨rfl, rfl, rfl, by decide +kernel, rfl, by decide +kernel, by decide +kernel⟩
abbrev s_l_draw : Stmt := topS 46
abbrev N_l_draw : List Str := ["_law_script", "_law_k", "_law_many", "_law_number_here", "_law_cell"]
theorem sc_l_draw : FnScope N_l_draw ["_law_script", "_law_k", "_law_many"] (defScope s_l_draw) := ⟨rfl, rfl, rfl, by decide +kernel, rfl, by decide +kernel, by decide +kernel⟩
abbrev s_l_digits : Stmt := topS 48
abbrev N_l_digits : List Str := ["_law_number_here", "_law_by", "_law_many", "_law_found", "_law_k"]
theorem sc_l_digits : FnScope N_l_digits ["_law_number_here", "_law_by", "_law_many"] (defScope s_l_digits) := ⟨rfl, rfl, rfl, by decide +kernel, rfl, by decide +kernel, by decide +kernel⟩
abbrev s_l_sizes : Stmt := topS 49
abbrev N_l_sizes : List Str := ["_law_script", "_law_most_here", "_law_wide", "_law_many", "_law_menu", "_law_sizes_here", "_law_count", "_law_digit", "_law_size"]
theorem sc_l_sizes : FnScope N_l_sizes ["_law_script", "_law_most_here", "_law_wide"] (defScope s_l_sizes) := ⟨rfl, rfl, rfl, by decide +kernel, rfl, by decide +kernel, by decide +kernel⟩
abbrev s_l_once : Stmt := topS 50
abbrev N_l_once : List Str := ["_law_script", "_law_sizes_here", "_law_unit", "_law_turn", "_law_signs", "_law_paces", "_law_left", "_law_axis"]
theorem sc_l_once : FnScope N_l_once ["_law_script", "_law_sizes_here"] (defScope s_l_once) := ⟨rfl, rfl, rfl, by decide +kernel, rfl, by decide +kernel, by decide +kernel⟩
abbrev s_l_others : Stmt := topS 51
abbrev N_l_others : List Str := ["_law_script", "_law_paces", "_law_way", "_law_k", "_law_axis", "_law_digit"]
theorem sc_l_others : FnScope N_l_others ["_law_script", "_law_paces"] (defScope s_l_others) := ⟨rfl, rfl, rfl, by decide +kernel, rfl, by decide +kernel, by decide +kernel⟩
abbrev s_l_least : Stmt := topS 52
abbrev N_l_least : List Str := ["_law_sizes_here", "_law_paces", "_law_size", "_law_pace"]
theorem sc_l_least : FnScope N_l_least ["_law_sizes_here", "_law_paces"] (defScope s_l_least) := ⟨rfl, rfl, rfl, by decide +kernel, rfl, by decide +kernel, by decide +kernel⟩
abbrev s_l_most : Stmt := topS 53
abbrev N_l_most : List Str := ["_law_sizes_here", "_law_paces", "_law_size", "_law_pace"]
theorem sc_l_most : FnScope N_l_most ["_law_sizes_here", "_law_paces"] (defScope s_l_most) := ⟨rfl, rfl, rfl, by decide +kernel, rfl, by decide +kernel, by decide +kernel⟩
abbrev s_l_cells : Stmt := topS 54
abbrev N_l_cells : List Str := ["_law_first", "_law_sizes_here", "_law_paces", "_law_found", "_law_size", "_law_pace", "_law_longer", "_law_cell", "_law_k"]
theorem sc_l_cells : FnScope N_l_cells ["_law_first", "_law_sizes_here", "_law_paces"] (defScope s_l_cells) := ⟨rfl, rfl, rfl, by decide +kernel, rfl, by decide +kernel, by decide +kernel⟩
abbrev s_l_two : Stmt := topS 55
abbrev N_l_two : List Str := ["_law_script", "_law_sizes_here", "_law_paces", "_law_others_here", "_law_first", "_law_begin", "_law_last", "_law_room", "_law_one", "_law_other"]
theorem sc_l_two : FnScope N_l_two ["_law_script", "_law_sizes_here"] (defScope s_l_two) := ⟨rfl, rfl, rfl, by decide +kernel, rfl, by decide +kernel, by decide +kernel⟩
abbrev s_l_far : Stmt := topS 56
abbrev N_l_far : List Str := ["_law_script", "_law_view", "_law_by", "_law_more", "_law_size", "_law_pace"]
theorem sc_l_far : FnScope N_l_far ["_law_script", "_law_view"] (defScope s_l_far) := ⟨rfl, rfl, rfl, by decide +kernel, rfl, by decide +kernel, by decide +kernel⟩
abbrev s_l_walk : Stmt := topS 57
abbrev N_l_walk : List Str := ["_law_sizes_here", "_law_order", "_law_found", "_law_axis", "_law_way", "_law_numbers", "_law_longer", "_law_place", "_law_k"]
theorem sc_l_walk : FnScope N_l_walk ["_law_sizes_here", "_law_order"] (defScope s_l_walk) := ⟨rfl, rfl, rfl, by decide +kernel, rfl, by decide +kernel, by decide +kernel⟩
abbrev s_l_number : Stmt := topS 58
abbrev N_l_number : List Str := ["_law_sizes_here", "_law_place", "_law_number_here", "_law_size", "_law_k"]
theorem sc_l_number : FnScope N_l_number ["_law_sizes_here", "_law_place"] (defScope s_l_number) := ⟨rfl, rfl, rfl, by decide +kernel, rfl, by decide +kernel, by decide +kernel⟩
abbrev s_l_keeps : Stmt := topS 59
abbrev N_l_keeps : List Str := ["_law_sizes_here", "_law_order", "_law_writes", "_law_reads", "_law_held", "_law_due", "_law_n", "_law_place"]
theorem sc_l_keeps : FnScope N_l_keeps ["_law_sizes_here", "_law_order", "_law_writes", "_law_reads"] (defScope s_l_keeps) := ⟨rfl, rfl, rfl, by decide +kernel, rfl, by decide +kernel, by decide +kernel⟩
abbrev s_l_all_orders : Stmt := topS 60
abbrev N_l_all_orders : List Str := ["_law_axes", "_law_found", "_law_k", "_law_longer", "_law_order", "_law_left", "_law_axis", "_law_row"]
theorem sc_l_all_orders : FnScope N_l_all_orders ["_law_axes"] (defScope s_l_all_orders) := ⟨rfl, rfl, rfl, by decide +kernel, rfl, by decide +kernel, by decide +kernel⟩
abbrev s_l_right : Stmt := topS 61
abbrev N_l_right : List Str := ["_law_one", "_law_other", "_law_can", "_law_told"]
theorem sc_l_right : FnScope N_l_right ["_law_one", "_law_other", "_law_can"] (defScope s_l_right) := ⟨rfl, rfl, rfl, by decide +kernel, rfl, by decide +kernel, by decide +kernel⟩
abbrev s_law : Stmt := topS 62
abbrev N_law : List Str := ["_law_script", "_law_sizes_here", "_law_one", "_law_other", "_law_writes", "_law_reads", "_law_can", "_law_order"]
theorem sc_law : FnScope N_law ["_law_script"] (defScope s_law) := ⟨rfl, rfl, rfl, by decide +kernel, rfl, by decide +kernel, by decide +kernel⟩

theorem b_isinstance : bootBuiltins "isinstance" = some (.builtin "isinstance") := by decide +kernel
theorem b_len : bootBuiltins "len" = some (.builtin "len") := by decide +kernel
theorem b_sum : bootBuiltins "sum" = some (.builtin "sum") := by decide +kernel
theorem b_min : bootBuiltins "min" = some (.builtin "min") := by decide +kernel
theorem b_max : bootBuiltins "max" = some (.builtin "max") := by decide +kernel
theorem b_tuple : bootBuiltins "tuple" = some (.type "tuple") := by decide +kernel
theorem b_list : bootBuiltins "list" = some (.type "list") := by decide +kernel
theorem b_int : bootBuiltins "int" = some (.type "int") := by decide +kernel
theorem b_bool : bootBuiltins "bool" = some (.type "bool") := by decide +kernel
/-- what the module's name x holds -/
def Cst (mg : Str → Option Value) (x : Str) (v : V) : Prop := ∃ u, mg x = some u ∧ RelV v u
structure Txt (K : PySem.W.Frag) (mg : Str → Option Value) (C : Addr) : Prop where
  isinstance : mg "isinstance" = none
  len : mg "len" = none
  reversed : mg "reversed" = none
  zip : mg "zip" = none
  range : mg "range" = none
  sum : mg "sum" = none
  min : mg "min" = none
  max : mg "max" = none
  tuple : mg "tuple" = none
  list : mg "list" = none
  enumerate : mg "enumerate" = none
  int : mg "int" = none
  bool : mg "bool" = none
  cPl : Cst mg "MOST_places" (.int 4096)
  cVi : Cst mg "MOST_views" (.int 4096)
  cRo : Cst mg "MOST_ROOM" (.int (10 ^ 18))
  cAx : Cst mg "MOST_AXES" (.int 8)
  cSi : Cst mg "MOST_SIZE" (.int (10 ^ 9))
  cLo : Cst mg "MOST_loops" (.int 4096)
  cFl : Cst mg "MOST_floors" (.int 4096)
  cl : Cls K C
  nR : NoAttr K C "room"
  nF : NoAttr K C "first"
  nA : NoAttr K C "axes"
section
variable {X : Cx} {x : Str} {v : V} {pos : Pos}
theorem pe_gc (hg : Gl X x) (h : Cst X.mg x v) (hd : (x == ("__debug__" : Str)) = false := by decide) : PE X (.Name x pos) (tC v) := by
  obtain ⟨u, e, r⟩ := h
  exact pe_glob hg e r hd
end
/-! the rules that name the written part, with its name K given -/
section
variable {X : Cx} {e : Expr} {tg : Expr} {f : Str} {pos : Pos} {te : TE}
theorem k_catA (K : PySem.W.Frag) (h : X.K = K := by rfl) : OpR X (binaryOp .Add) (rCatA K) := by subst h; exact op_catA
theorem k_ixl (K : PySem.W.Frag) (h : X.K = K := by rfl) : IxR X (rIxL K) := by subst h; exact ix_list
theorem k_ixt (K : PySem.W.Frag) (h : X.K = K := by rfl) : IxR X (rIxT K) := by subst h; exact ix_tup
theorem k_slA (K : PySem.W.Frag) (h : X.K = K := by rfl) : SlR X (rSlA K) := by subst h; exact sl_tupA
theorem k_notIn (K : PySem.W.Frag) (h : X.K = K := by rfl) : OpR X (compareOp .NotIn) (rIn K true) := by subst h; exact op_notIn_seq
theorem k_fld (K : PySem.W.Frag) (he : PE X e te) (hb : attributeBase e f X.env (eval e X.env) = eval e X.env := by rfl) (h : X.K = K := by rfl) : PE X (.Attribute e f pos) (tFld K te f) := by subst h; exact pe_fld he hb
theorem k_list (K : PySem.W.Frag) (he : PE X e te) (h : X.K = K := by rfl) : PI X tg e (iList K te) := by subst h; exact pi_list he
end
/-- the def called x keeps its promise -/
structure Cal (P : Program) (w : World) (K : PySem.W.Frag) (mg : Str → Option Value) (base : Heap) (x : Str) (k : Nat) (ps : List Str) (sp : Sp) : Prop where
  ex : ∃ (f : Addr) (fd : FuncData), mg x = some (.ref f) ∧ PySem.W.keepIn K (.ref f) = true ∧ Binds K fd ps [] ∧ FnOk P w K mg base CX0 k f fd ps sp
/-- the method m of the class at C keeps its promise -/
structure CalM (P : Program) (w : World) (K : PySem.W.Frag) (mg : Str → Option Value) (base : Heap) (C : Addr) (m : Str) (k : Nat) (ps : List Str) (sp : Sp) : Prop where
  cl : Cls K C
  ex : ∃ (f : Addr) (fd : FuncData), Meth K C m f ∧ Binds K fd ps [] ∧ FnOk P w K mg base CX0 k f fd ps sp
/-- the class called x at C is made by an __init__ that keeps its promise -/
structure CalC (P : Program) (w : World) (K : PySem.W.Frag) (mg : Str → Option Value) (base : Heap) (x : Str) (C : Addr) (k : Nat) (ps : List Str) (sp : Sp) : Prop where
  ex : ∃ (f : Addr) (fd : FuncData), mg x = some (.ref C) ∧ Mk K C f ∧ Binds K fd ps [] ∧ FnOk P w K mg base CX0 k f fd ps sp
section
variable {X : Cx} {x m : Str} {C : Addr} {k j : Nat} {ps : List Str} {sp : Sp} {o e : Expr} {es : List Expr} {to : TE} {t : TA} {p pos apos : Pos}
theorem pe_cal (c : Cal X.prog X.w X.K X.mg X.base x k ps sp) (hr : Room j X.A) (hg : Gl X x) (ha : PA X (e :: es) t) (hk : k ≤ j := by decide) (hdb : (x == ("__debug__" : Str)) = false := by decide)
    (he : starEach (e :: es) X.env = (false, eval e X.env) :: starEach es X.env := by rfl) (hpl : (backTo pos (starEach es X.env)).any (·.1) = false := by rfl) : PE X (.Call (.Name x p) (e :: es) [] pos) (tCall sp [] E0 t) := by
  obtain ⟨f, fd, e1, e2, b, F⟩ := c.ex
  exact pe_call F (hr.mono hk) hg e1 e2 b .nil pass0 ha hdb he hpl
theorem pe_m0 {pl : Sem Bool} (c : CalM X.prog X.w X.K X.mg X.base C m k ps sp) (ho : PE X o to) (hr : Room j X.A) (hk : k ≤ j := by decide)
    (ht : eval (.Call (.Attribute o m apos) [] [] pos) X.env = (do
      let ov ← eval o X.env
      standAt apos.atName
      let (f, first) ← holding [ov] (getMethod ov m pl)
      callWith pos f first (backTo pos (starEach [] X.env)) (backToKw pos (keywordEach [] X.env))) := by rfl) : PE X (.Call (.Attribute o m apos) [] [] pos) (tMeth C m sp [] E0 to tNil) := by
  obtain ⟨f, fd, M, b, F⟩ := c.ex
  exact pe_meth0 (pl := pl) ho c.cl M F (hr.mono hk) b .nil pass0 ht
theorem pe_m1 {pl : Sem Bool} (c : CalM X.prog X.w X.K X.mg X.base C m k ps sp) (ho : PE X o to) (hr : Room j X.A) (ha : PA X (e :: es) t) (hk : k ≤ j := by decide)
    (hst : starEach (e :: es) X.env = (false, eval e X.env) :: starEach es X.env := by rfl) (hpl : (backTo pos (starEach es X.env)).any (·.1) = false := by rfl)
    (ht : eval (.Call (.Attribute o m apos) (e :: es) [] pos) X.env = (do
      let ov ← eval o X.env
      standAt apos.atName
      let (f, first) ← holding [ov] (getMethod ov m pl)
      callWith pos f first (backTo pos (starEach (e :: es) X.env)) (backToKw pos (keywordEach [] X.env))) := by rfl) : PE X (.Call (.Attribute o m apos) (e :: es) [] pos) (tMeth C m sp [] E0 to t) := by
  obtain ⟨f, fd, M, b, F⟩ := c.ex
  exact pe_meth (pl := pl) ho c.cl M F (hr.mono hk) b .nil pass0 ha hst hpl ht
theorem pe_mk (c : CalC X.prog X.w X.K X.mg X.base x C k ps sp) (hr : Room j X.A) (hg : Gl X x) (ha : PA X (e :: es) t) (hk : k + 1 ≤ j := by decide) (hdb : (x == ("__debug__" : Str)) = false := by decide)
    (he : starEach (e :: es) X.env = (false, eval e X.env) :: starEach es X.env := by rfl) (hpl : (backTo pos (starEach es X.env)).any (·.1) = false := by rfl) : PE X (.Call (.Name x p) (e :: es) [] pos) (tMake C sp [] E0 t) := by
  obtain ⟨f, fd, e1, M, b, F⟩ := c.ex
  exact pe_make M F (hr.mono hk) hg e1 b .nil pass0 ha hdb he hpl
end
theorem Room.units1 {k : Nat} {A : Around} (r : Room k A) : A.units + 65 < cLine := by have := r.un; omega

/-! heaps -/
theorem same_new {H H' : Hp} {p : Addr} {o : HO} (s : Same H H') (h : H p = none) : Same H (upd H' p o) := fun b x e => by
  rw [upd_ne (ne_of_none e h)]
  exact s b x e
theorem same_upd {H : Hp} {p : Addr} {o : HO} (h : H p = none) : Same H (upd H p o) := same_new (Same.refl H) h
/-- all stays but what stands at l -/
def But (l : Addr) (H H' : Hp) : Prop := ∀ b o, H b = some o → b ≠ l → H' b = some o
theorem But.upd (l : Addr) (H : Hp) (o : HO) : But l H (upd H l o) := fun b x e h => by rw [upd_ne h]; exact e
theorem Same.but {l : Addr} {H H' : Hp} (s : Same H H') : But l H H' := fun b x e _ => s b x e
theorem But.trans {l : Addr} {H H1 H2 : Hp} (a : But l H H1) (b : But l H1 H2) : But l H H2 := fun c o e h => b c o (a c o e h) h
theorem Same.butNew {l : Addr} {H H1 H2 : Hp} (a : Same H H1) (b : But l H1 H2) (h : H l = none) : Same H H2 := fun c o e => b c o (a c o e) (ne_of_none e h)
def isTup : HO → Prop
  | .tup _ => True
  | _ => False
theorem But.tup {l : Addr} {H H' : Hp} {xs : List V} {o : HO} (b : But l H H') (hl : H l = some o) (ho : ¬ isTup o) {a : Addr} (e : H a = some (.tup xs)) : H' a = some (.tup xs) :=
  b a _ e (ne_of e hl fun z => ho (by rw [← z]; trivial))
theorem But.pl {l : Addr} {H H' : Hp} {o : HO} (b : But l H H') (hl : H l = some o) (ho : ¬ isTup o) {a : Addr} {p : Pl} (h : PlA H a p) : PlA H' a p := b.tup hl ho h
theorem But.pr {l : Addr} {H H' : Hp} {o : HO} (b : But l H H') (hl : H l = some o) (ho : ¬ isTup o) {a : Addr} {pr : PP} (h : PrA H a pr) : PrA H' a pr := by
  obtain ⟨c, d, e, e1, e2⟩ := h
  exact ⟨c, d, b.tup hl ho e, b.pl hl ho e1, b.pl hl ho e2⟩

/-! lists of intL that came of naturals, of things that stand at addresses -/
abbrev natL (l : List Nat) : List V := l.map nI
abbrev intL (l : List Int) : List V := l.map V.int
abbrev refL {α : Type} (l : List (Addr × α)) : List V := l.map fun p => V.ref p.1
theorem nats_ints (l : List Nat) : natL l = intL (l.map fun n : Nat => (n : Int)) := by
  unfold natL intL nI
  rw [List.map_map]
  rfl
theorem intL_snoc (l : List Int) (x : Int) : intL (l ++ [x]) = intL l ++ [.int x] := List.map_append
theorem natL_snoc (l : List Nat) (x : Nat) : natL (l ++ [x]) = natL l ++ [nI x] := List.map_append
theorem refL_snoc {α : Type} (l : List (Addr × α)) (a : Addr) (x : α) : refL (l ++ [(a, x)]) = refL l ++ [.ref a] := List.map_append
theorem refL_append {α : Type} (l m : List (Addr × α)) : refL (l ++ m) = refL l ++ refL m := List.map_append
theorem intL_append (l m : List Int) : intL (l ++ m) = intL l ++ intL m := List.map_append
/-- each stands where it is said to -/
def AllA {α : Type} (R : Hp → Addr → α → Prop) (H : Hp) (l : List (Addr × α)) : Prop := ∀ p ∈ l, R H p.1 p.2
theorem AllA.nil {α : Type} {R : Hp → Addr → α → Prop} {H : Hp} : AllA R H [] := fun _ h => by simp at h
theorem AllA.snoc {α : Type} {R : Hp → Addr → α → Prop} {H : Hp} {l : List (Addr × α)} {a : Addr} {x : α} (h : AllA R H l) (k : R H a x) : AllA R H (l ++ [(a, x)]) := fun p hp => by
  rcases List.mem_append.mp hp with hp | hp
  · exact h p hp
  · rw [List.mem_singleton.mp hp]; exact k
theorem AllA.append {α : Type} {R : Hp → Addr → α → Prop} {H : Hp} {l m : List (Addr × α)} (h : AllA R H l) (k : AllA R H m) : AllA R H (l ++ m) := fun p hp => by
  rcases List.mem_append.mp hp with hp | hp
  · exact h p hp
  · exact k p hp
theorem AllA.imp {α : Type} {R : Hp → Addr → α → Prop} {H H' : Hp} {l : List (Addr × α)} (h : AllA R H l) (k : ∀ a x, R H a x → R H' a x) : AllA R H' l := fun p hp => k _ _ (h p hp)
theorem refL_get {α : Type} {l : List (Addr × α)} {i : Nat} {v : V} (h : (refL l)[i]? = some v) : ∃ a x, l[i]? = some (a, x) ∧ v = .ref a ∧ (l.map (·.2))[i]? = some x := by
  unfold refL at h
  rw [List.getElem?_map] at h
  cases e : l[i]? with
  | none => rw [e] at h; cases h
  | some p =>
    rw [e] at h
    exact ⟨p.1, p.2, rfl, (Option.some.inj h).symm, by rw [List.getElem?_map, e]; rfl⟩
theorem natL_get {l : List Nat} {i : Nat} {v : V} (h : (natL l)[i]? = some v) : ∃ n, l[i]? = some n ∧ v = nI n := by
  unfold natL at h
  rw [List.getElem?_map] at h
  cases e : l[i]? with
  | none => rw [e] at h; cases h
  | some n =>
    rw [e] at h
    exact ⟨n, rfl, (Option.some.inj h).symm⟩
theorem intL_get {l : List Int} {i : Nat} {v : V} (h : (intL l)[i]? = some v) : ∃ n, l[i]? = some n ∧ v = .int n := by
  unfold intL at h
  rw [List.getElem?_map] at h
  cases e : l[i]? with
  | none => rw [e] at h; cases h
  | some n =>
    rw [e] at h
    exact ⟨n, rfl, (Option.some.inj h).symm⟩
theorem take_snoc {α : Type} {l : List α} {i : Nat} {x : α} (h : l[i]? = some x) : l.take (i + 1) = l.take i ++ [x] := by
  rw [List.take_add_one, h]
  rfl
theorem small {n : Nat} (h : n ≤ 100000) : n < sizeLine := Nat.lt_of_le_of_lt h (by decide)

/-! comprehensions whose list is of intL -/
theorem lc_ints {J : It} {n : Nat} {G : Hp → Prop} {Y : Nat → Hp → V → Hp → Prop} (w : Walk J n G Y) {g : TG} {te : TE} {vs : List Nat} {σ : L2.St} {H1 : Hp} {D : Addr} {Qd : Hp → Prop} (ns : List Int) (hn : ns.length = n) (hz : n ≤ 100000) (hD : H1 D = none)
    (hG : ∀ H, Same H1 H → G H) (hY : ∀ i H x H', i < n → G H → Y i H x H' → Same H H')
    (hs : ∀ i x z H H' (R : VK), i < n → ns[i]? = some z → Same H1 H → Y i H x H' → Same H1 H' → (∀ H4, Same H' H4 → R (.int z) H4) → g x (wipe σ vs) H' fun σ2 H2 => wipe σ2 vs = wipe σ vs ∧ te σ2 H2 R)
    (hd : ∀ H, Same H1 H → H D = some (.lst (intL ns)) → Qd H) :
    ∃ W : Nat → Nat → Hp → Prop, (∃ m, W 0 m (upd H1 D (.lst []))) ∧ ∀ i m H, W i m H →
      (J.stop i H ∧ Qd H) ∨ (J.go i H ∧ ∃ Nx : Hp → Prop, (∀ H', Nx H' → ∃ m', m' < m ∧ W (i + 1) m' H') ∧ ∀ x H', J.yld i H x H' → g x (wipe σ vs) H' fun σ2 H2 => wipe σ2 vs = wipe σ vs ∧ tYes σ2 H2 fun b H3 =>
        if b = true then te σ2 H3 fun y H4 => ∃ acc, H4 D = some (.lst acc) ∧ acc.length < sizeLine ∧ Nx (upd H4 D (.lst (acc ++ [y]))) else Nx H3) := by
  refine lc_it w (tt := tYes) (fun i H => Same H1 H ∧ H D = some (.lst (intL (ns.take i)))) ⟨same_upd hD, by rw [upd_same]; rfl⟩ (fun i H _ h => hG H h.1) (fun i x H H' hi h y => ?_) (fun H h => hd H h.1 (by rw [h.2, ← hn, List.take_length]))
  have hi' : i < ns.length := by omega
  have s' := hY i H x H' hi (hG H h.1) y
  refine hs i x ns[i] H H' (fun y H4 => ∃ acc, H4 D = some (.lst acc) ∧ acc.length < sizeLine ∧ (Same H1 (upd H4 D (.lst (acc ++ [y]))) ∧ (upd H4 D (.lst (acc ++ [y]))) D = some (.lst (intL (ns.take (i + 1)))))) hi (List.getElem?_eq_getElem hi') h.1 y (h.1.trans s') fun H4 s4 => ?_
  refine ⟨_, s4 _ _ (s' _ _ h.2), by rw [List.length_map, List.length_take]; exact small (by omega), same_new ((h.1.trans s').trans s4) hD, ?_⟩
  rw [upd_same, take_snoc (List.getElem?_eq_getElem hi'), intL_snoc]
/-- .. whose list is of new things, each at an address -/
theorem lc_news {α : Type} {J : It} {n : Nat} {G : Hp → Prop} {Y : Nat → Hp → V → Hp → Prop} (R0 : Hp → Addr → α → Prop) (hR : ∀ H H' a x, Same H H' → R0 H a x → R0 H' a x) (hB : ∀ (H H' : Hp) (D a : Addr) (xs : List V) (x : α), H D = some (.lst xs) → But D H H' → R0 H a x → R0 H' a x)
    (w : Walk J n G Y) {g : TG} {te : TE} {vs : List Nat} {σ : L2.St} {H1 : Hp} {D : Addr} {Qd : Hp → Prop} (xs : List α) (hn : xs.length = n) (hz : n ≤ 100000) (hD : H1 D = none)
    (hG : ∀ H, Same H1 H → G H) (hY : ∀ i H x H', i < n → G H → Y i H x H' → Same H H')
    (hs : ∀ i x z H H' (R : VK), i < n → xs[i]? = some z → Same H1 H → Y i H x H' → Same H1 H' → (∀ H4 a, Same H' H4 → R0 H4 a z → R (.ref a) H4) → g x (wipe σ vs) H' fun σ2 H2 => wipe σ2 vs = wipe σ vs ∧ te σ2 H2 R)
    (hd : ∀ H (l : List (Addr × α)), Same H1 H → l.map (·.2) = xs → AllA R0 H l → H D = some (.lst (refL l)) → Qd H) :
    ∃ W : Nat → Nat → Hp → Prop, (∃ m, W 0 m (upd H1 D (.lst []))) ∧ ∀ i m H, W i m H →
      (J.stop i H ∧ Qd H) ∨ (J.go i H ∧ ∃ Nx : Hp → Prop, (∀ H', Nx H' → ∃ m', m' < m ∧ W (i + 1) m' H') ∧ ∀ x H', J.yld i H x H' → g x (wipe σ vs) H' fun σ2 H2 => wipe σ2 vs = wipe σ vs ∧ tYes σ2 H2 fun b H3 =>
        if b = true then te σ2 H3 fun y H4 => ∃ acc, H4 D = some (.lst acc) ∧ acc.length < sizeLine ∧ Nx (upd H4 D (.lst (acc ++ [y]))) else Nx H3) := by
  refine lc_it w (tt := tYes) (fun i H => Same H1 H ∧ ∃ l : List (Addr × α), l.map (·.2) = xs.take i ∧ AllA R0 H l ∧ H D = some (.lst (refL l))) ⟨same_upd hD, [], rfl, AllA.nil, upd_same⟩ (fun i H _ h => hG H h.1) (fun i x H H' hi h y => ?_) (fun H h => ?_)
  · obtain ⟨s1, l, hl, ha, e⟩ := h
    have hi' : i < xs.length := by omega
    have s' := hY i H x H' hi (hG H s1) y
    refine hs i x xs[i] H H' (fun y H4 => ∃ acc, H4 D = some (.lst acc) ∧ acc.length < sizeLine ∧ (Same H1 (upd H4 D (.lst (acc ++ [y]))) ∧ ∃ l : List (Addr × α), l.map (·.2) = xs.take (i + 1) ∧ AllA R0 (upd H4 D (.lst (acc ++ [y]))) l ∧ (upd H4 D (.lst (acc ++ [y]))) D = some (.lst (refL l)))) hi
      (List.getElem?_eq_getElem hi') s1 y (s1.trans s') fun H4 a s4 ra => ?_
    have e4 := s4 _ _ (s' _ _ e)
    have hll : l.length = i := by
      have := congrArg List.length hl
      rw [List.length_map, List.length_take] at this
      omega
    refine ⟨_, e4, by rw [List.length_map, hll]; exact small (by omega), same_new ((s1.trans s').trans s4) hD, l ++ [(a, xs[i])], ?_, ?_, ?_⟩
    · rw [List.map_append, hl, take_snoc (List.getElem?_eq_getElem hi')]
      rfl
    · refine AllA.snoc (ha.imp fun b z q => hB _ _ _ _ _ _ e4 (But.upd _ _ _) (hR _ _ _ _ (s'.trans s4) q)) (hB _ _ _ _ _ _ e4 (But.upd _ _ _) ra)
    · rw [upd_same, refL_snoc]
  · obtain ⟨s1, l, hl, ha, e⟩ := h
    exact hd H l s1 (by rw [hl, ← hn, List.take_length]) ha e
/-- what the usual walks hand on leaves all that stood -/
theorem same_at {xs : List V} : ∀ (i : Nat) (H : Hp) (x : V) (H' : Hp), YAt xs i H x H' → Same H H' := fun _ H _ H' y => by rw [y.1]; exact Same.refl H
theorem same_fn {f : Nat → V} : ∀ (i : Nat) (H : Hp) (x : V) (H' : Hp), YFn f i H x H' → Same H H' := fun _ H _ H' y => by rw [y.1]; exact Same.refl H
theorem same_pair {f g : Nat → Option V} : ∀ (i : Nat) (H : Hp) (x : V) (H' : Hp), YPair f g i H x H' → Same H H' := fun _ H _ H' y => by
  obtain ⟨T, x, z, _, h2, h3, _⟩ := y
  rw [h3]
  exact same_upd h2
end PH

/-! The walks: numbers, places. -/
namespace PH
open PySem PySem.Spec PyProof.Rows L2
theorem prod_snoc (l : List Nat) (x : Nat) : prod (l ++ [x]) = prod l * x := by
  induction l with
  | nil => simp [prod]
  | cons a l ih =>
    show a * prod (l ++ [x]) = a * prod l * x
    rw [ih, Nat.mul_assoc]
theorem nI_lt {s : Nat} {b : Nat} (h : s ≤ b) (hb : b < 2 ^ 64) : -(2 ^ 64) < (s : Int) ∧ (s : Int) < 2 ^ 64 := by
  have : (s : Int) < ((2 ^ 64 : Nat) : Int) := Int.ofNat_lt.mpr (Nat.lt_of_le_of_lt h hb)
  have e : ((2 ^ 64 : Nat) : Int) = 2 ^ 64 := rfl
  omega
section
variable {P : Program} {w : World} {K : PySem.W.Frag} {mg : Str → Option Value} {base : Heap} {C : Addr}

/-! is_whole -/
def spWhole : Sp := fun vs H Q _ => ∃ i : Int, vs = [.int i] ∧ Q (.bl true) H
theorem ok_is_whole {f : Addr} {fd : FuncData} (F : Fun K "is_whole" "is_whole" s_is_whole f fd) (T : Txt K mg C) : FnOk P w K mg base CX0 1 f fd ["thing"] spWhole := by
  refine F.ok sc_is_whole (fun vs H Q E h => ?_) (fun cdv A outer s H vs Q E hr h => ?_)
  · obtain ⟨i, rfl, _⟩ := h
    rfl
  · obtain ⟨i, rfl, q⟩ := h
    refine ⟨_, (pss_one (ps_ret (pe_and (pe_callB call_isi (by rfl) T.isinstance b_isinstance (pa_cons (pv 0) (pa_cons (pe_bltn (v := .ty "int") (by rfl) T.int b_int rfl) pa_nil))) (pe_one (pe_not (pe_callB call_isi (by rfl) T.isinstance b_isinstance (pa_cons (pv 0) (pa_cons (pe_bltn (v := .ty "bool") (by rfl) T.bool b_bool rfl) pa_nil)))))))), ?_⟩
    refine ⟨_, rfl, _, _, .type "int", .type "int", true, rfl, .ty _, .base (.int _), kit_ty (by decide +kernel), true, rfl, iteT ?_⟩
    exact ⟨_, rfl, _, _, .type "int", .type "bool", false, rfl, .ty _, .base (.int _), kit_ty (by decide +kernel), false, rfl, q⟩

/-! count_of -/
def spCount (K : PySem.W.Frag) : Sp := fun vs H Q _ => ∃ (a : Addr) (sz : List Nat), vs = [.ref a] ∧ SqL K H a (natL sz) ∧ SzOk sz ∧ Q (nI (prod sz)) H
theorem ok_count_of {f : Addr} {fd : FuncData} (F : Fun K "count_of" "count_of" s_count_of f fd) (T : Txt K mg C) : FnOk P w K mg base CX0 1 f fd ["sizes"] (spCount K) := by
  refine F.ok sc_count_of (fun vs H Q E h => ?_) (fun cdv A outer s H vs Q E hr h => ?_)
  · obtain ⟨a, sz, rfl, _⟩ := h
    rfl
  · obtain ⟨a, sz, rfl, hS, hz, q⟩ := h
    refine ⟨_, (pss_cons (ps_set (i := 1) sc_count_of.nd rfl (Or.inl rfl) pe_int)
      (pss_cons (ps_for PassesOwn.never rfl (k_list K (pv 0)) (pg_name (i := 2) sc_count_of.nd rfl (Or.inl rfl)) (pss_one (ps_set (i := 1) sc_count_of.nd rfl (Or.inl rfl) (pe_op op_mul (pv 1) (pv 2)))))
      (pss_one (ps_ret (pv 1))))), ?_⟩
    refine ⟨_, rfl, a, rfl, ⟨_, hS⟩, for_list (K := K) (a := a) (xs := natL sz) (fun i σ H2 => ∃ v : Option V, σ = [some (.ref a), some (nI (prod (sz.take i))), v] ∧ H2 = H)
      ⟨none, rfl, rfl⟩ (fun i σ H2 _ ⟨_, _, e⟩ => by rw [e]; exact hS) ?_ ?_⟩
    · rintro i y σ H2 hi ⟨v, rfl, rfl⟩
      obtain ⟨n, hn, rfl⟩ := natL_get hi
      have hb := hz.bd n (List.mem_of_getElem? hn)
      refine ⟨_, rfl, _, rfl, _, _, rfl, rfl, .inr (nI_lt hb.2 (by decide)), some (nI n), ?_, rfl⟩
      rw [take_snoc hn, prod_snoc]
      show [_, some (V.int (((prod (List.take i sz) : Nat) : Int) * (n : Int))), _] = _
      rw [← Int.natCast_mul]
      rfl
    · rintro σ H2 ⟨v, rfl, rfl⟩
      refine ⟨_, rfl, ?_⟩
      show Q (nI (prod (sz.take (natL sz).length))) _
      rw [List.length_map, List.take_length]
      exact q

/-! paces_of: that there is a list of as many small ints is all that is asked of it -/
def spPaces (K : PySem.W.Frag) : Sp := fun vs H Q _ => ∃ (a : Addr) (sz : List Nat), vs = [.ref a] ∧ SqL K H a (natL sz) ∧ SzOk sz ∧ ∀ (H' : Hp) (l : Addr) (ps : List Int), Same H H' → H' l = some (.lst (intL ps)) → ps.length = sz.length → Q (.ref l) H'
theorem ok_paces_of {f : Addr} {fd : FuncData} (F : Fun K "paces_of" "paces_of" s_paces_of f fd) (T : Txt K mg C) : FnOk P w K mg base CX0 1 f fd ["sizes"] (spPaces K) := by
  refine F.ok sc_paces_of (fun vs H Q E h => ?_) (fun cdv A outer s H vs Q E hr h => ?_)
  · obtain ⟨a, sz, rfl, _⟩ := h
    rfl
  · obtain ⟨a, sz, rfl, hS, hz, q⟩ := h
    refine ⟨_, (pss_cons (ps_set (i := 1) sc_paces_of.nd rfl (Or.inl rfl) (pe_lst pa_nil))
      (pss_cons (ps_set (i := 2) sc_paces_of.nd rfl (Or.inl rfl) pe_int)
      (pss_cons (ps_for PassesOwn.never rfl (pi_reversed (by rfl) T.reversed (pa_cons (pv 0) pa_nil)) (pg_name (i := 3) sc_paces_of.nd rfl (Or.inl rfl)) (pss_cons (ps_expr (pe_bm PySem.F.plainAttrs_list PySem.F.slot_list_append PySem.F.type_list_append mt_append (pv 1) (pa_cons (pv 2) pa_nil)))
      (pss_one (ps_set (i := 2) sc_paces_of.nd rfl (Or.inl rfl) (pe_op op_mul (pv 2) (pv 3))))))
      (pss_cons (ps_expr (pe_bm0 PySem.F.plainAttrs_list PySem.F.slot_list_reverse PySem.F.type_list_reverse mt_reverse (pv 1)))
      (pss_one (ps_ret (pv 1))))))), ?_⟩
    refine ⟨Nat.zero_le _, fun l nl => ?_⟩
    have s0 : Same H (upd H l (.lst [])) := same_upd nl
    have hlen := hz.len
    refine ⟨_, rfl, a, natL sz, rfl, s0.seq hS, for_it (walk_rev (K := K) (a := a) (xs := natL sz)) (fun i σ H2 => ∃ (v : Option V) (p : Int) (ps : List Int), σ = [some (.ref a), some (.ref l), some (.int p), v] ∧ Same H H2 ∧ H2 l = some (.lst (intL ps)) ∧ ps.length = i)
      ⟨none, 1, [], rfl, s0, upd_same, rfl⟩ (fun i σ H2 _ ⟨_, _, _, _, s2, _⟩ => s2.seq hS) ?_ ?_⟩
    · rintro i y σ H2 H3 hi ⟨v, p, ps, rfl, s2, el, hl⟩ ⟨rfl, hy⟩
      obtain ⟨n, hn, rfl⟩ := natL_get hy
      have hb := hz.bd n (List.mem_of_getElem? hn)
      rw [List.length_map] at hi
      refine ⟨_, rfl, .inl ⟨rfl, _, SqL.of el⟩, _, rfl, l, _, _, rfl, rfl, el, by rw [List.length_map]; exact small (by omega), ?_⟩
      refine ⟨_, rfl, _, rfl, _, _, rfl, rfl, .inr (nI_lt hb.2 (by decide)), some (nI n), _, ps ++ [p], rfl, same_new s2 nl, ?_, by rw [List.length_append, hl]; rfl⟩
      rw [upd_same, intL_snoc]
    · rintro σ H2 ⟨v, p, ps, rfl, s2, el, hl⟩
      refine ⟨_, rfl, .inl ⟨rfl, _, SqL.of el⟩, l, _, rfl, rfl, el, ?_⟩
      refine ⟨_, rfl, q _ l ps.reverse (same_new s2 nl) ?_ ?_⟩
      · rw [upd_same, intL, intL, List.map_reverse]
      · rw [List.length_reverse, hl, List.length_map]

/-! need_place -/
def spNeedPlace (K : PySem.W.Frag) : Sp := fun vs H Q _ => ∃ (a b : Addr) (sz : List Nat) (p : Pl), vs = [.ref a, .ref b] ∧ SqL K H a (natL sz) ∧ PlA H b p ∧ IsPl sz p ∧ ∀ H', Same H H' → Q .non H'
theorem ok_need_place {f : Addr} {fd : FuncData} (F : Fun K "need_place" "need_place" s_need_place f fd) (T : Txt K mg C) (G_is_whole : Cal P w K mg base "is_whole" 1 ["thing"] spWhole) : FnOk P w K mg base CX0 2 f fd ["sizes", "place"] (spNeedPlace K) := by
  refine F.ok sc_need_place (fun vs H Q E h => ?_) (fun cdv A outer s H vs Q E hr h => ?_)
  · obtain ⟨a, b, sz, p, rfl, _⟩ := h
    rfl
  · obtain ⟨a, b, sz, p, rfl, hS, hp, hpl, q⟩ := h
    have hT : SqT K H b (p.map nI) := SqT.of hp
    refine ⟨_, (pss_cons (ps_if (PW.pt (pw_or (pt_not (pt_val (pe_callB call_isi (by rfl) T.isinstance b_isinstance (pa_cons (pv 1) (pa_cons (pe_bltn (v := .ty "tuple") (by rfl) T.tuple b_tuple rfl) pa_nil))))) (pw_or1 (pt_cmpR op_ne (pe_callB call_len_seq (by rfl) T.len b_len (pa_cons (pv 1) pa_nil)) (pe_callB call_len_seq (by rfl) T.len b_len (pa_cons (pv 0) pa_nil)) (nomark _))))) pss_never pss_nil)
      (pss_one (ps_for PassesOwn.never rfl (pi_zipX false true (by rfl) T.zip (pa_cons (pv 0) (pa_cons (pv 1) pa_nil))) (pg_tup rfl (pgs_cons (pg_name (i := 2) sc_need_place.nd rfl (Or.inl rfl)) (pgs_cons (pg_name (i := 3) sc_need_place.nd rfl (Or.inl rfl)) pgs_nil))) (pss_one (ps_if (PW.pt (pw_or (pt_not (pt_val (pe_cal G_is_whole hr (by rfl) (pa_cons (pv 3) pa_nil)))) (pw_or (pt_cmpR op_lt (pv 3) pe_int (nomark _)) (pw_or1 (pt_cmpR op_ge (pv 3) (pv 2) (nomark _)))))) pss_never pss_nil))))), ?_⟩
    refine ⟨_, rfl, _, _, .type "tuple", .type "tuple", true, rfl, .ty _, .base (.tup hp), kit_ty (by decide +kernel), true, rfl, iteF ?_⟩
    refine ⟨_, rfl, b, _, rfl, .inr hT, _, rfl, a, _, rfl, .inl hS, rfl, _, rfl, ?_⟩
    refine iteNS (by rw [List.length_map, List.length_map, hpl.len]) ?_
    refine ⟨_, rfl, _, rfl, a, b, natL sz, p.map nI, rfl, hS, hT, for_it (walk_zipX (K := K) (t := false) (u := true) (a := a) (b := b) (xs := natL sz) (ys := p.map nI) (by rw [List.length_map, List.length_map, hpl.len])) (fun i σ H2 => ∃ v3 v4 : Option V, σ = [some (.ref a), some (.ref b), v3, v4] ∧ Same H H2)
      ⟨none, none, rfl, Same.refl H⟩ (fun i σ H2 _ ⟨_, _, _, s2⟩ => ⟨s2.seq hS, SqT.of (hp.same s2)⟩) ?_ ?_⟩
    · rintro i y σ H2 H3 hi ⟨v3, v4, rfl, s2⟩ ⟨t, x1, x2, rfl, nt, rfl, hx, hy⟩
      obtain ⟨n, hn, rfl⟩ := natL_get hx
      obtain ⟨k, hk, rfl⟩ := natL_get (l := p) hy
      have hi' : i < sz.length := by simpa using hi
      have hlt : k < n := by
        have := hpl.at i hi'
        rw [List.getD_eq_getElem?_getD, List.getD_eq_getElem?_getD, hn, hk] at this
        exact this
      refine ⟨t, _, rfl, SqT.of upd_same, rfl, _, _, rfl, _, _, rfl, rfl, ?_⟩
      refine ⟨_, rfl, _, rfl, true, rfl, iteF ?_⟩
      refine ⟨_, rfl, _, _, rfl, rfl, _, rfl, ?_⟩
      rw [decide_eq_false (show ¬ ((k : Int) < 0) by omega)]
      refine iteF ⟨_, rfl, _, rfl, _, _, rfl, rfl, _, rfl, ?_⟩
      rw [decide_eq_false (show ¬ ((n : Int) ≤ (k : Int)) by omega)]
      exact iteF ⟨_, _, rfl, s2.trans (same_upd nt)⟩
    · rintro σ H2 ⟨v3, v4, rfl, s2⟩
      exact q H2 s2

/-! number_of: its value is asked for by nobody here -/
def spNumber (K : PySem.W.Frag) : Sp := fun vs H Q _ => ∃ (a b : Addr) (sz : List Nat) (p : Pl), vs = [.ref a, .ref b] ∧ SqL K H a (natL sz) ∧ PlA H b p ∧ IsPl sz p ∧ SzOk sz ∧ ∀ (H' : Hp) (z : Int), Same H H' → Q (.int z) H'
theorem ok_number_of {f : Addr} {fd : FuncData} (F : Fun K "number_of" "number_of" s_number_of f fd) (T : Txt K mg C) (G_need_place : Cal P w K mg base "need_place" 2 ["sizes", "place"] (spNeedPlace K)) (G_paces_of : Cal P w K mg base "paces_of" 1 ["sizes"] (spPaces K)) :
    FnOk P w K mg base CX0 3 f fd ["sizes", "place"] (spNumber K) := by
  refine F.ok sc_number_of (fun vs H Q E h => ?_) (fun cdv A outer s H vs Q E hr h => ?_)
  · obtain ⟨a, b, sz, p, rfl, _⟩ := h
    rfl
  · obtain ⟨a, b, sz, p, rfl, hS, hp, hpl, hz, q⟩ := h
    refine ⟨_, (pss_cons (ps_expr (pe_cal G_need_place hr (by rfl) (pa_cons (pv 0) (pa_cons (pv 1) pa_nil))))
      (pss_one (ps_ret (pe_callB (cr_sum rfl) (by rfl) T.sum b_sum (pa_cons (pe_lc (own := [("at", 2), ("pace", 3)]) (g := gTup K 2 (gCons (gName 2) (gCons (gName 3) gNil))) (tt := tYes) (by rfl) sc_number_of.nd (pi_zipX true false (by rfl) T.zip (pa_cons (pv 1) (pa_cons (pe_cal G_paces_of hr (by rfl) (pa_cons (pv 0) pa_nil)) pa_nil)))  (blkOk_by (own := [("at", 2), ("pace", 3)]) (N := N_number_of) (sc := defScope s_number_of) (by decide +kernel)) (fun _ _ _ _ _ => (pg_tup rfl (pgs_cons (pg_name (i := 2) sc_number_of.nd rfl (Or.inl rfl)) (pgs_cons (pg_name (i := 3) sc_number_of.nd rfl (Or.inl rfl)) pgs_nil)))) (fun _ _ _ _ _ => pts_nil) (fun _ _ _ _ _ => (pe_op op_mul (pv 2) (pv 3)))) pa_nil))))), ?_⟩
    refine ⟨_, rfl, _, rfl, a, b, sz, p, rfl, hS, hp, hpl, fun H1 s1 => ?_⟩
    refine ⟨_, rfl, _, rfl, a, sz, rfl, s1.seq hS, hz, fun H2 l ps s2 el hl => ?_⟩
    have hp2 := (hp.same s1).same s2
    have s12 := s1.trans s2
    have hlen : (p.map nI).length = (intL ps).length := by rw [List.length_map, List.length_map, hl, hpl.len]
    refine ⟨b, l, p.map nI, intL ps, rfl, SqT.of hp2, SqL.of el, fun D nD => ?_⟩
    refine lc_ints (walk_zipX (K := K) (t := true) (u := false) (a := b) (b := l) hlen) ((List.range (p.map nI).length).map fun i => ((p.getD i 0 : Nat) : Int) * ps.getD i 0) (by rw [List.length_map, List.length_range])
      (by rw [List.length_map, hpl.len]; have := hz.len; omega) nD (fun H3 s3 => ⟨SqT.of (hp2.same s3), SqL.of (s3 _ _ el)⟩) (fun i H3 x H4 _ _ y => same_pair i H3 x H4 y) (fun i x z H3 H4 R hi hz' s3 y s4 hR => ?_) (fun H3 s3 e3 => ?_)
    · obtain ⟨t, x1, x2, rfl, nt, rfl, hx, hy⟩ := y
      obtain ⟨k, hk, rfl⟩ := natL_get (l := p) hx
      obtain ⟨c, hc, rfl⟩ := intL_get hy
      have hi' : i < sz.length := by rw [List.length_map, hpl.len] at hi; exact hi
      have hkb : k ≤ 6 := by
        have h1 := hpl.at i hi'
        have h2 := hz.bd _ (mem_getD (z := 0) hi')
        rw [List.getD_eq_getElem?_getD, hk] at h1
        have h1' : k < sz.getD i 0 := h1
        omega
      have ez : z = (k : Int) * c := by
        rw [List.getElem?_map, List.getElem?_range hi] at hz'
        rw [← Option.some.inj hz']
        show ((p.getD i 0 : Nat) : Int) * ps.getD i 0 = _
        rw [List.getD_eq_getElem?_getD, List.getD_eq_getElem?_getD, hk, hc]
        rfl
      subst ez
      refine ⟨t, _, rfl, SqT.of upd_same, rfl, _, _, rfl, _, _, rfl, rfl, rfl, ?_⟩
      exact ⟨_, rfl, _, rfl, _, _, rfl, rfl, .inl (nI_lt hkb (by decide)), hR _ (Same.refl _)⟩
    · exact ⟨D, _, rfl, SqL.of e3, q _ _ (s12.trans s3)⟩
end
end PH

/-! The walks: places, views. -/
namespace PH
open PySem PySem.Spec PyProof.Rows L2
theorem SzOk.take {sz : List Nat} (h : SzOk sz) (i : Nat) : SzOk (sz.take i) := ⟨by rw [List.length_take]; have := h.len; omega, fun s hs => h.bd s (List.mem_of_mem_take hs)⟩
theorem len_placesF (sz : List Nat) : (placesF sz).length = prod sz := by rw [placesF_eq, len_placesR]
theorem placesF_snoc (l : List Nat) (n : Nat) : placesF (l ++ [n]) = stepP (placesF l) n := by
  unfold placesF
  rw [List.foldl_append]
  rfl
def step1 (n : Nat) (p : Pl) : List Pl := (List.range n).map fun k => p ++ [k]
theorem len_step1 (n : Nat) (p : Pl) : (step1 n p).length = n := by unfold step1; rw [List.length_map, List.length_range]
theorem flat_take_snoc {α β : Type} {l : List α} {i : Nat} {x : α} (f : α → List β) (h : l[i]? = some x) : (l.take (i + 1)).flatMap f = (l.take i).flatMap f ++ f x := by
  rw [take_snoc h, List.flatMap_append, List.flatMap_singleton]
/-- an axis stands at a -/
def AxA (H : Hp) (a : Addr) (x : Nat × Int) : Prop := H a = some (.tup [nI x.1, .int x.2])
theorem AxA.same {H H' : Hp} {a : Addr} {x : Nat × Int} (h : AxA H a x) (s : Same H H') : AxA H' a x := s _ _ h
theorem But.ax {l : Addr} {H H' : Hp} {o : HO} (b : But l H H') (hl : H l = some o) (ho : ¬ isTup o) {a : Addr} {x : Nat × Int} (h : AxA H a x) : AxA H' a x := b.tup hl ho h
theorem plA_same : ∀ (H H' : Hp) (a : Addr) (x : Pl), Same H H' → PlA H a x → PlA H' a x := fun _ _ _ _ s h => h.same s
theorem plA_but : ∀ (H H' : Hp) (D a : Addr) (xs : List V) (x : Pl), H D = some (.lst xs) → But D H H' → PlA H a x → PlA H' a x := fun _ _ _ _ _ _ e b h => b.pl e (fun z => z) h
theorem axA_same : ∀ (H H' : Hp) (a : Addr) (x : Nat × Int), Same H H' → AxA H a x → AxA H' a x := fun _ _ _ _ s h => h.same s
theorem axA_but : ∀ (H H' : Hp) (D a : Addr) (xs : List V) (x : Nat × Int), H D = some (.lst xs) → But D H H' → AxA H a x → AxA H' a x := fun _ _ _ _ _ _ e b h => b.ax e (fun z => z) h
/-! a view's attributes -/
def vf (r f : Int) (l : Addr) : List (Str × V) := putF "axes" (.ref l) (putF "first" (.int f) (putF "room" (.int r) []))
theorem n_fr : ¬ (("first" : Str) = "room") := by decide +kernel
theorem n_ar : ¬ (("axes" : Str) = "room") := by decide +kernel
theorem n_af : ¬ (("axes" : Str) = "first") := by decide +kernel
theorem n_rf : ¬ (("room" : Str) = "first") := by decide +kernel
theorem n_ra : ¬ (("room" : Str) = "axes") := by decide +kernel
theorem n_fa : ¬ (("first" : Str) = "axes") := by decide +kernel
theorem vf_axes (r f : Int) (l : Addr) : (vf r f l).lookup ("axes" : Str) = some (.ref l) := by
  unfold vf
  rw [lookup_putF, if_pos rfl]
theorem vf_first (r f : Int) (l : Addr) : (vf r f l).lookup ("first" : Str) = some (.int f) := by
  unfold vf
  rw [lookup_putF, if_neg n_fa, lookup_putF, if_pos rfl]
theorem vf_room (r f : Int) (l : Addr) : (vf r f l).lookup ("room" : Str) = some (.int r) := by
  unfold vf
  rw [lookup_putF, if_neg n_ra, lookup_putF, if_neg n_rf, lookup_putF, if_pos rfl]
theorem vf_no (r f : Int) (l : Addr) {m : Str} (h1 : ¬ m = "axes") (h2 : ¬ m = "first") (h3 : ¬ m = "room") : (vf r f l).lookup m = none := by
  unfold vf
  rw [lookup_putF, if_neg h1, lookup_putF, if_neg h2, lookup_putF, if_neg h3]
  rfl
/-- a view stands at p -/
structure VwA (C : Addr) (H : Hp) (p : Addr) (r f : Int) (axes : List (Nat × Int)) : Prop where
  at_ : ∃ (dx l : Addr) (xs : List (Addr × (Nat × Int))), H p = some (.ins C dx (vf r f l)) ∧ H l = some (.lst (refL xs)) ∧ AllA AxA H xs ∧ xs.map (·.2) = axes
  sz : SzOk (axes.map (·.1))
theorem VwA.same {C : Addr} {H H' : Hp} {p : Addr} {r f : Int} {axes : List (Nat × Int)} (h : VwA C H p r f axes) (s : Same H H') : VwA C H' p r f axes := by
  obtain ⟨⟨dx, l, xs, e1, e2, e3, e4⟩, z⟩ := h
  exact ⟨⟨dx, l, xs, s _ _ e1, s _ _ e2, e3.imp fun a x q => q.same s, e4⟩, z⟩
theorem sizes_get {xs : List (Addr × (Nat × Int))} {axes : List (Nat × Int)} (h : xs.map (·.2) = axes) {i : Nat} {v : V} (hv : (refL xs)[i]? = some v) : ∃ a s c, v = .ref a ∧ axes[i]? = some (s, c) ∧ (a, (s, c)) ∈ xs := by
  obtain ⟨a, x, e1, e2, e3⟩ := refL_get hv
  exact ⟨a, x.1, x.2, e2, by rw [← h]; exact e3, List.mem_of_getElem? e1⟩
theorem len_refL {α : Type} (l : List (Addr × α)) : (refL l).length = l.length := List.length_map _
theorem dot_zip : ∀ (p : Pl) (ps : List Int), (List.zipWith (fun (a : Nat) (c : Int) => (a : Int) * c) p ps).sum = dot p ps
  | [], _ => by simp [dot]
  | _ :: _, [] => by simp [dot]
  | a :: p, c :: ps => by
    rw [List.zipWith_cons_cons, List.sum_cons, dot_zip p ps]
    rfl
section
variable {P : Program} {w : World} {K : PySem.W.Frag} {mg : Str → Option Value} {base : Heap} {C : Addr}

/-! places -/
def spPlaces (K : PySem.W.Frag) : Sp := fun vs H Q _ => ∃ (a : Addr) (sz : List Nat), vs = [.ref a] ∧ SqL K H a (natL sz) ∧ SzOk sz ∧
  ∀ (H' : Hp) (l : Addr) (ps : List (Addr × Pl)), Same H H' → H l = none → H' l = some (.lst (refL ps)) → ps.map (·.2) = placesR sz → AllA PlA H' ps → Q (.ref l) H'
theorem ok_places {f : Addr} {fd : FuncData} (F : Fun K "places" "places" s_places f fd) (T : Txt K mg C) (G_count_of : Cal P w K mg base "count_of" 1 ["sizes"] (spCount K)) : FnOk P w K mg base CX0 2 f fd ["sizes"] (spPlaces K) := by
  refine F.ok sc_places (fun vs H Q E h => ?_) (fun cdv A outer s H vs Q E hr h => ?_)
  · obtain ⟨a, sz, rfl, _⟩ := h
    rfl
  · obtain ⟨a, sz, rfl, hS, hz, q⟩ := h
    refine ⟨_, (pss_cons (ps_set (i := 1) sc_places.nd rfl (Or.inl rfl) (pe_cal G_count_of hr (by rfl) (pa_cons (pv 0) pa_nil)))
      (pss_cons (ps_if (pt_cmpR op_gt (pv 1) (pe_gc (by rfl) T.cPl) (nomark _)) pss_never pss_nil)
      (pss_cons (ps_set (i := 2) sc_places.nd rfl (Or.inl rfl) (pe_lst (pa_cons (pe_tup pa_nil) pa_nil)))
      (pss_cons (ps_for PassesOwn.never rfl (k_list K (pv 0)) (pg_name (i := 3) sc_places.nd rfl (Or.inl rfl)) (pss_cons (ps_set (i := 4) sc_places.nd rfl (Or.inl rfl) (pe_lst pa_nil))
      (pss_cons (ps_for PassesOwn.never rfl (k_list K (pv 2)) (pg_name (i := 5) sc_places.nd rfl (Or.inr rfl)) (pss_one (ps_expr (pe_bm PySem.F.plainAttrs_list PySem.F.slot_list_extend PySem.F.type_list_extend mt_extend (pv 4) (pa_cons (pe_lc (own := [("at", 6)]) (g := gName 6) (tt := tYes) (by rfl) sc_places.nd (pi_range1 rfl T.range (pa_cons (pv 3) pa_nil))  (blkOk_by (own := [("at", 6)]) (N := N_places) (sc := defScope s_places) (by decide +kernel)) (fun _ _ _ _ _ => (pg_name (i := 6) sc_places.nd rfl (Or.inl rfl))) (fun _ _ _ _ _ => pts_nil) (fun _ _ _ _ _ => (pe_op (k_catA K) (pv 5) (pe_tup (pa_cons (pv 6) pa_nil))))) pa_nil)))))
      (pss_one (ps_set (i := 2) sc_places.nd rfl (Or.inl rfl) (pv 4))))))
      (pss_one (ps_ret (pv 2))))))), ?_⟩
    refine ⟨_, rfl, a, sz, rfl, hS, hz, ?_⟩
    have hp := hz.prod
    refine ⟨_, rfl, _, _, rfl, rfl, _, rfl, ?_⟩
    rw [decide_eq_false (show ¬ ((4096 : Int) < ((prod sz : Nat) : Int)) by omega)]
    refine iteF ?_
    refine ⟨Nat.zero_le _, fun e ne => ⟨by show 1 ≤ sizeLine; decide, fun l nl => ?_⟩⟩
    have se : Same H (upd H e (.tup [])) := same_upd ne
    have sl : Same H (upd (upd H e (.tup [])) l (.lst [.ref e])) := same_new se (se.free nl)
    have nle : e ≠ l := ne_of_none upd_same nl
    refine ⟨_, rfl, a, rfl, ⟨_, sl.seq hS⟩, for_list (K := K) (a := a) (xs := natL sz) (fun i σ H2 => ∃ (lf : Addr) (ps : List (Addr × Pl)) (v3 v4 v5 : Option V), σ = [some (.ref a), some (nI (prod sz)), some (.ref lf), v3, v4, v5, none] ∧
        Same H H2 ∧ H lf = none ∧ H2 lf = some (.lst (refL ps)) ∧ AllA PlA H2 ps ∧ ps.map (·.2) = placesF (sz.take i))
      ⟨l, [(e, [])], none, none, none, rfl, sl, Same.free se nl, upd_same, fun p hp => by rw [List.mem_singleton.mp hp]; show upd _ l _ e = _; rw [upd_ne nle]; exact upd_same, rfl⟩ (fun i σ H2 _ ⟨_, _, _, _, _, _, s2, _⟩ => s2.seq hS) ?_ ?_⟩
    · rintro i y σ H2 hi ⟨lf, ps, v3, v4, v5, rfl, s2, nlf, ef, hA, hps⟩
      obtain ⟨n, hn, rfl⟩ := natL_get hi
      have hb := hz.bd n (List.mem_of_getElem? hn)
      have hpl : ps.length ≤ 216 := by
        have := congrArg List.length hps
        rw [List.length_map, len_placesF] at this
        have := (hz.take i).prod
        omega
      -- longer = []
      refine ⟨Nat.zero_le _, fun g ng => ?_⟩
      have sg : Same H2 (upd H2 g (.lst [])) := same_upd ng
      have nfg : lf ≠ g := ne_of_none ef ng
      refine ⟨_, rfl, lf, rfl, ⟨_, SqL.of (sg _ _ ef)⟩, for_list (K := K) (a := lf) (xs := refL ps) (fun j σ H3 => ∃ (qs : List (Addr × Pl)) (v5 : Option V), σ = [some (.ref a), some (nI (prod sz)), some (.ref lf), some (nI n), some (.ref g), v5, none] ∧
          Same H2 H3 ∧ H3 g = some (.lst (refL qs)) ∧ AllA PlA H3 qs ∧ qs.map (·.2) = ((ps.map (·.2)).take j).flatMap (step1 n))
        ⟨[], v5, rfl, sg, upd_same, AllA.nil, rfl⟩ (fun j σ H3 _ ⟨_, _, _, s3, _⟩ => SqL.of (s3 _ _ ef)) ?_ ?_⟩
      · rintro j y σ H3 hj ⟨qs, v5, rfl, s3, eg, hQs, hqs⟩
        obtain ⟨pa, p, e1, rfl, e3⟩ := refL_get hj
        have hpa : PlA H3 pa p := (hA _ (List.mem_of_getElem? e1)).same s3
        have hjl : j < ps.length := by rw [← len_refL]; exact (List.getElem?_eq_some_iff.mp hj).1
        have hql : qs.length ≤ 1296 := by
          have h1 := congrArg List.length hqs
          rw [List.length_map, len_flatMap (step1 n) n _ fun p _ => len_step1 n p, List.length_take, List.length_map] at h1
          have h2 : min j ps.length * n ≤ 216 * 6 := Nat.mul_le_mul (by omega) hb.2
          omega
        refine ⟨_, rfl, .inl ⟨rfl, _, SqL.of eg⟩, _, rfl, _, rfl, by omega, by omega, fun D nD => ?_⟩
        refine lc_news (α := Pl) PlA plA_same plA_but (walk_range (lo := 0) (n := n)) (step1 n p) (len_step1 n p) (by omega) nD (fun _ _ => trivial) (fun k H4 x H5 _ _ y => same_fn k H4 x H5 y) (fun k x z H4 H5 R hk hz' s4 y s5 hR => ?_) (fun H4 l4 s4 hl4 hA4 e4 => ?_)
        · obtain ⟨rfl, rfl⟩ := y
          have ez : z = p ++ [k] := by
            unfold step1 at hz'
            rw [List.getElem?_map, List.getElem?_range hk] at hz'
            exact (Option.some.inj hz').symm
          subst ez
          refine ⟨rfl, _, rfl, _, rfl, by show 1 ≤ sizeLine; decide, fun t nt => ?_⟩
          have st : Same H5 (upd H5 t (.tup [.int (0 + (k : Int))])) := same_upd nt
          have hp5 : PlA (upd H5 t (.tup [.int (0 + (k : Int))])) pa p := (hpa.same s4).same st
          have ek : V.int (0 + (k : Int)) = nI k := by rw [Int.zero_add]; rfl
          refine ⟨pa, t, p.map nI, [.int (0 + (k : Int))], rfl, rfl, SqT.of hp5, SqT.of upd_same, ?_, fun e => ?_, (fun _ e => by cases e), fun _ _ u nu => ?_⟩
          · have hpl' : p.length ≤ 3 := by
              have hm : p ∈ placesF (sz.take i) := by rw [← hps]; exact List.mem_of_getElem? e3
              rw [placesF_eq] at hm
              rw [(mem_placesR.mp hm).len, List.length_take]
              have := hz.len
              omega
            rw [List.length_map]
            exact Nat.le_of_lt (small (by show p.length + 1 ≤ 100000; omega))
          · have e0 : p = [] := by simpa using e
            subst e0
            refine hR _ t st ?_
            show upd H5 t _ t = _
            rw [upd_same]
            exact congrArg (fun v => some (HO.tup [v])) ek
          · refine hR _ u (same_new st (Same.free st nu)) ?_
            show upd _ u _ u = _
            rw [upd_same, List.map_append]
            exact congrArg (fun v => some (HO.tup (p.map nI ++ [v]))) ek
        · have eg4 := s4 _ _ eg
          have hl4' : l4.length = n := by
            have := congrArg List.length hl4
            rw [List.length_map, len_step1] at this
            exact this
          have b4 : But g H4 (upd H4 g (.lst (refL qs ++ refL l4))) := But.upd _ _ _
          refine ⟨g, D, _, _, rfl, rfl, eg4, e4, by rw [len_refL, len_refL]; exact Nat.le_of_lt (small (by omega)), qs ++ l4, some (.ref pa), rfl, Same.butNew (s3.trans s4) b4 ng, ?_, ?_, ?_⟩
          · rw [upd_same, refL_append]
          · exact ((hQs.imp fun b z k => plA_same _ _ _ _ s4 k).append hA4).imp fun b z k => b4.pl eg4 (fun z => z) k
          · rw [List.map_append, hqs, hl4, flat_take_snoc _ e3]
      · rintro σ H3 ⟨qs, v5, rfl, s3, eg, hQs, hqs⟩
        refine ⟨_, rfl, g, qs, _, _, _, rfl, s2.trans s3, Same.free s2 ng, eg, hQs, ?_⟩
        rw [hqs, len_refL, show ps.length = (ps.map (·.2)).length by rw [List.length_map], List.take_length, hps, take_snoc hn, placesF_snoc]
        rfl
    · rintro σ H2 ⟨lf, ps, v3, v4, v5, rfl, s2, nlf, ef, hA, hps⟩
      refine ⟨_, rfl, q H2 lf ps s2 nlf ef ?_ hA⟩
      rw [hps, List.length_map, List.take_length, placesF_eq]

/-! is_axis -/
def spIsAxis : Sp := fun vs H Q _ => ∃ (a : Addr) (s : Nat) (c : Int), vs = [.ref a] ∧ AxA H a (s, c) ∧ 1 ≤ s ∧ s ≤ 6 ∧ Q (.bl true) H
theorem ok_is_axis {f : Addr} {fd : FuncData} (F : Fun K "is_axis" "is_axis" s_is_axis f fd) (T : Txt K mg C) (G_is_whole : Cal P w K mg base "is_whole" 1 ["thing"] spWhole) : FnOk P w K mg base CX0 2 f fd ["thing"] spIsAxis := by
  refine F.ok sc_is_axis (fun vs H Q E h => ?_) (fun cdv A outer s H vs Q E hr h => ?_)
  · obtain ⟨a, s, c, rfl, _⟩ := h
    rfl
  · obtain ⟨a, s, c, rfl, ha, h1, h6, q⟩ := h
    refine ⟨_, (pss_cons (ps_if (PW.pt (pw_or (pt_not (pt_val (pe_callB call_isi (by rfl) T.isinstance b_isinstance (pa_cons (pv 0) (pa_cons (pe_bltn (v := .ty "tuple") (by rfl) T.tuple b_tuple rfl) pa_nil))))) (pw_or1 (pt_cmpR op_ne (pe_callB call_len_seq (by rfl) T.len b_len (pa_cons (pv 0) pa_nil)) pe_int (nomark _))))) (pss_one (ps_ret pe_bl)) pss_nil)
      (pss_one (ps_ret (pe_and (pe_cal G_is_whole hr (by rfl) (pa_cons (pe_ix (k_ixt K) (pv 0) pe_int (fun _ _ => rfl)) pa_nil)) (pe_and (pe_chain op_le op_le pe_int (pe_ix (k_ixt K) (pv 0) pe_int (fun _ _ => rfl)) (pe_gc (by rfl) T.cSi)) (pe_one (pe_cal G_is_whole hr (by rfl) (pa_cons (pe_ix (k_ixt K) (pv 0) pe_int (fun _ _ => rfl)) pa_nil)))))))), ?_⟩
    have hT : SqT K H a [nI s, .int c] := SqT.of ha
    refine ⟨_, rfl, _, _, .type "tuple", .type "tuple", true, rfl, .ty _, .base (.tup ha), kit_ty (by decide +kernel), true, rfl, iteF ?_⟩
    refine ⟨_, rfl, a, _, rfl, .inr hT, rfl, _, rfl, iteNS rfl ?_⟩
    refine ⟨_, rfl, a, _, _, _, rfl, rfl, hT, atI_nat (j := 0) rfl, _, rfl, _, rfl, iteT ?_⟩
    refine ⟨_, rfl, a, _, _, _, rfl, rfl, hT, atI_nat (j := 0) rfl, _, _, rfl, rfl, true, ?_, iteT ?_⟩
    · exact congrArg V.bl (decide_eq_true (show (1 : Int) ≤ (s : Int) by omega))
    · refine ⟨_, _, rfl, rfl, true, ?_, iteT ?_⟩
      · exact congrArg V.bl (decide_eq_true (show (s : Int) ≤ 10 ^ 9 by omega))
      · exact ⟨_, rfl, a, _, _, _, rfl, rfl, hT, atI_nat (j := 1) rfl, _, rfl, q⟩

/-! kept_axes -/
def spKept : Sp := fun vs H Q _ => ∃ (a : Addr) (xs : List (Addr × (Nat × Int))), vs = [.ref a] ∧ H a = some (.lst (refL xs)) ∧ AllA AxA H xs ∧ SzOk ((xs.map (·.2)).map (·.1)) ∧
  ∀ (H' : Hp) (l : Addr) (ys : List (Addr × (Nat × Int))), Same H H' → H' l = some (.lst (refL ys)) → AllA AxA H' ys → ys.map (·.2) = keptF (xs.map (·.2)) → Q (.ref l) H'
theorem ok_kept_axes {f : Addr} {fd : FuncData} (F : Fun K "kept_axes" "kept_axes" s_kept_axes f fd) (T : Txt K mg C) (G_is_axis : Cal P w K mg base "is_axis" 2 ["thing"] spIsAxis) : FnOk P w K mg base CX0 3 f fd ["axes"] spKept := by
  refine F.ok sc_kept_axes (fun vs H Q E h => ?_) (fun cdv A outer s H vs Q E hr h => ?_)
  · obtain ⟨a, xs, rfl, _⟩ := h
    rfl
  · obtain ⟨a, xs, rfl, ha, hA, hz, q⟩ := h
    refine ⟨_, (pss_cons (ps_if (PW.pt (pw_or (pt_not (pt_val (pe_callB call_isi (by rfl) T.isinstance b_isinstance (pa_cons (pv 0) (pa_cons (pe_bltn (v := .ty "list") (by rfl) T.list b_list rfl) pa_nil))))) (pw_or1 (pt_cmpR op_gt (pe_callB call_len_seq (by rfl) T.len b_len (pa_cons (pv 0) pa_nil)) (pe_gc (by rfl) T.cAx) (nomark _))))) pss_never pss_nil)
      (pss_cons (ps_set (i := 1) sc_kept_axes.nd rfl (Or.inl rfl) (pe_lst pa_nil))
      (pss_cons (ps_for PassesOwn.never rfl (k_list K (pv 0)) (pg_name (i := 2) sc_kept_axes.nd rfl (Or.inl rfl)) (pss_cons (ps_if (pt_not (pt_val (pe_cal G_is_axis hr (by rfl) (pa_cons (pv 2) pa_nil)))) pss_never pss_nil)
      (pss_one (ps_if (pt_cmpR op_eq (pe_ix (k_ixt K) (pv 2) pe_int (fun _ _ => rfl)) pe_int (nomark _)) (pss_one (ps_expr (pe_bm PySem.F.plainAttrs_list PySem.F.slot_list_append PySem.F.type_list_append mt_append (pv 1) (pa_cons (pe_tup (pa_cons pe_int (pa_cons pe_int pa_nil))) pa_nil)))) (pss_one (ps_expr (pe_bm PySem.F.plainAttrs_list PySem.F.slot_list_append PySem.F.type_list_append mt_append (pv 1) (pa_cons (pv 2) pa_nil))))))))
      (pss_one (ps_ret (pv 1)))))), ?_⟩
    have hlen : xs.length ≤ 3 := by have := hz.len; rw [List.length_map, List.length_map] at this; exact this
    refine ⟨_, rfl, _, _, .type "list", .type "list", true, rfl, .ty _, .base (.lst ha), kit_ty (by decide +kernel), true, rfl, iteF ?_⟩
    refine ⟨_, rfl, a, _, rfl, .inl (SqL.of ha), _, _, rfl, rfl, _, rfl, ?_⟩
    rw [decide_eq_false (show ¬ ((8 : Int) < (((refL xs).length : Nat) : Int)) by rw [len_refL]; omega)]
    refine iteF ⟨Nat.zero_le _, fun l nl => ?_⟩
    have s0 : Same H (upd H l (.lst [])) := same_upd nl
    refine ⟨_, rfl, a, rfl, ⟨_, SqL.of (s0 _ _ ha)⟩, for_list (K := K) (a := a) (xs := refL xs) (fun i σ H2 => ∃ (ys : List (Addr × (Nat × Int))) (v : Option V), σ = [some (.ref a), some (.ref l), v] ∧ Same H H2 ∧ H2 l = some (.lst (refL ys)) ∧ AllA AxA H2 ys ∧ ys.map (·.2) = keptF ((xs.map (·.2)).take i))
      ⟨[], none, rfl, s0, upd_same, AllA.nil, rfl⟩ (fun i σ H2 _ ⟨_, _, _, s2, _⟩ => SqL.of (s2 _ _ ha)) ?_ ?_⟩
    · rintro i y σ H2 hi ⟨ys, v, rfl, s2, el, hY, hys⟩
      obtain ⟨b, x, e1, rfl, e3⟩ := refL_get hi
      obtain ⟨sx, c⟩ := x
      have hb := hz.bd sx (List.mem_map.mpr ⟨(sx, c), List.mem_of_getElem? e3, rfl⟩)
      have hax : AxA H2 b (sx, c) := (hA _ (List.mem_of_getElem? e1)).same s2
      have hT : SqT K H2 b [nI sx, .int c] := SqT.of hax
      have hyl : ys.length ≤ 3 := by
        have := congrArg List.length hys
        unfold keptF at this
        rw [List.length_map, List.length_map, List.length_take, List.length_map] at this
        omega
      refine ⟨_, rfl, b, sx, c, rfl, hax, hb.1, hb.2, true, rfl, iteF ?_⟩
      refine ⟨_, rfl, b, _, _, _, rfl, rfl, hT, atI_nat (j := 0) rfl, rfl, _, rfl, ?_⟩
      -- one more, z, at t
      have done : ∀ (H3 : Hp) (t : Addr) (z : Nat × Int), Same H2 H3 → AxA H3 t z → z = (if sx = 1 then ((1, 0) : Nat × Int) else (sx, c)) → ∃ (zs : List (Addr × (Nat × Int))) (v : Option V), ([some (.ref a), some (.ref l), some (.ref b)] : L2.St) = [some (.ref a), some (.ref l), v] ∧
          Same H (upd H3 l (.lst (refL ys ++ [.ref t]))) ∧ (upd H3 l (.lst (refL ys ++ [.ref t]))) l = some (.lst (refL zs)) ∧ AllA AxA (upd H3 l (.lst (refL ys ++ [.ref t]))) zs ∧ zs.map (·.2) = keptF ((xs.map (·.2)).take (i + 1)) := fun H3 t z s3 ht ez => by
        have b3 : But l H3 (upd H3 l (.lst (refL ys ++ [.ref t]))) := But.upd _ _ _
        have e3' := s3 _ _ el
        refine ⟨ys ++ [(t, z)], _, rfl, Same.butNew (s2.trans s3) b3 nl, by rw [upd_same, refL_snoc], ?_, ?_⟩
        · exact ((hY.imp fun b z k => axA_same _ _ _ _ s3 k).snoc ht).imp fun b z k => b3.ax e3' (fun z => z) k
        · rw [List.map_append, hys, take_snoc e3, keptF, keptF, List.map_append, ez]
          rfl
      by_cases h1 : sx = 1
      · rw [decide_eq_true (show nI sx = V.int 1 by rw [h1]; rfl)]
        refine iteT ⟨_, rfl, .inl ⟨rfl, _, SqL.of el⟩, by decide, fun t nt => ?_⟩
        have st : Same H2 (upd H2 t (.tup [.int 1, .int 0])) := same_upd nt
        refine ⟨l, _, _, rfl, rfl, st _ _ el, by rw [len_refL]; exact small (by omega), ?_⟩
        exact done _ t (1, 0) st upd_same (by rw [if_pos h1])
      · rw [decide_eq_false (show ¬ nI sx = V.int 1 by
          intro e
          unfold nI at e
          injection e with e
          omega)]
        refine iteF ⟨_, rfl, .inl ⟨rfl, _, SqL.of el⟩, _, rfl, l, _, _, rfl, rfl, el, by rw [len_refL]; exact small (by omega), ?_⟩
        exact done _ b (sx, c) (Same.refl _) hax (by rw [if_neg h1])
    · rintro σ H2 ⟨ys, v, rfl, s2, el, hY, hys⟩
      refine ⟨_, rfl, q H2 l ys s2 el hY ?_⟩
      rw [hys, len_refL, show xs.length = (xs.map (·.2)).length by rw [List.length_map], List.take_length]
end
end PH

/-! The walks: the methods of a view. -/
namespace PH
open PySem PySem.Spec PyProof.Rows L2
theorem vm_sizes (r f : Int) (l : Addr) : (vf r f l).lookup ("sizes" : Str) = none := vf_no r f l (by decide +kernel) (by decide +kernel) (by decide +kernel)
theorem vm_paces (r f : Int) (l : Addr) : (vf r f l).lookup ("paces" : Str) = none := vf_no r f l (by decide +kernel) (by decide +kernel) (by decide +kernel)
theorem vm_count (r f : Int) (l : Addr) : (vf r f l).lookup ("count" : Str) = none := vf_no r f l (by decide +kernel) (by decide +kernel) (by decide +kernel)
theorem vm_cell (r f : Int) (l : Addr) : (vf r f l).lookup ("cell" : Str) = none := vf_no r f l (by decide +kernel) (by decide +kernel) (by decide +kernel)
theorem vm_cells (r f : Int) (l : Addr) : (vf r f l).lookup ("cells" : Str) = none := vf_no r f l (by decide +kernel) (by decide +kernel) (by decide +kernel)
theorem vm_least (r f : Int) (l : Addr) : (vf r f l).lookup ("least" : Str) = none := vf_no r f l (by decide +kernel) (by decide +kernel) (by decide +kernel)
theorem vm_greatest (r f : Int) (l : Addr) : (vf r f l).lookup ("greatest" : Str) = none := vf_no r f l (by decide +kernel) (by decide +kernel) (by decide +kernel)
theorem sz_axes {axes : List (Nat × Int)} (h : SzOk (axes.map (·.1))) : axes.length ≤ 3 ∧ ∀ s c, (s, c) ∈ axes → 1 ≤ s ∧ s ≤ 6 :=
  ⟨by have := h.len; rw [List.length_map] at this; exact this, fun s c hm => h.bd s (List.mem_map.mpr ⟨(s, c), hm, rfl⟩)⟩
def cellsF (f : Int) (axes : List (Nat × Int)) : List Int := axes.foldl stepC [f]
theorem cellsF_snoc (f : Int) (l : List (Nat × Int)) (x : Nat × Int) : cellsF f (l ++ [x]) = stepC (cellsF f l) x := by
  unfold cellsF
  rw [List.foldl_append]
  rfl
theorem len_cellsF (f : Int) (axes : List (Nat × Int)) : (cellsF f axes).length = prod (axes.map (·.1)) := by
  unfold cellsF
  rw [cellsF_eq, List.length_map, len_placesR]
def cell1 (s : Nat) (c z : Int) : List Int := (List.range s).map fun a : Nat => z + c * (a : Int)
theorem len_cell1 (s : Nat) (c z : Int) : (cell1 s c z).length = s := by unfold cell1; rw [List.length_map, List.length_range]
section
variable {P : Program} {w : World} {K : PySem.W.Frag} {mg : Str → Option Value} {base : Heap} {C : Addr}
/-! sizes, paces -/
def spSizes (C : Addr) : Sp := fun vs H Q _ => ∃ (p : Addr) (r f : Int) (axes : List (Nat × Int)), vs = [.ref p] ∧ VwA C H p r f axes ∧ ∀ (H' : Hp) (l : Addr), Same H H' → H' l = some (.lst (natL (axes.map (·.1)))) → Q (.ref l) H'
theorem ok_v_sizes {f : Addr} {fd : FuncData} (F : Fun K "sizes" "View.sizes" s_v_sizes f fd) (T : Txt K mg C) : FnOk P w K mg base CX0 1 f fd ["self"] (spSizes C) := by
  refine F.ok sc_v_sizes (fun vs H Q E h => ?_) (fun cdv A outer s H vs Q E hr h => ?_)
  · obtain ⟨p, r, f, axes, rfl, _⟩ := h
    rfl
  · obtain ⟨p, r, f, axes, rfl, hV, q⟩ := h
    obtain ⟨⟨dx, l, xs, hp, hl, hA, rfl⟩, hz⟩   := id hV
    have hb := sz_axes hz
    refine ⟨_, (pss_one (ps_ret (pe_lc (own := [("size", 1), ("pace", 2)]) (g := gTup K 2 (gCons (gName 1) (gCons (gName 2) gNil))) (tt := tYes) (by rfl) sc_v_sizes.nd (k_list K (k_fld K (pv 0)))  (blkOk_by (own := [("size", 1), ("pace", 2)]) (N := N_v_sizes) (sc := defScope s_v_sizes) (by decide +kernel)) (fun _ _ _ _ _ => (pg_tup rfl (pgs_cons (pg_name (i := 1) sc_v_sizes.nd rfl (Or.inl rfl)) (pgs_cons (pg_name (i := 2) sc_v_sizes.nd rfl (Or.inl rfl)) pgs_nil)))) (fun _ _ _ _ _ => pts_nil) (fun _ _ _ _ _ => (pv 1))))), ?_⟩
    refine ⟨_, rfl, p, C, dx, _, _, rfl, hp, T.cl, T.nA, vf_axes _ _ _, l, rfl, ⟨_, SqL.of hl⟩, fun D nD => ?_⟩
    refine lc_ints (walk_list (K := K) (a := l) (xs := refL xs)) ((xs.map (·.2)).map fun x => (x.1 : Int)) (by rw [List.length_map, List.length_map, len_refL]) (by rw [len_refL]; have := hb.1; rw [List.length_map] at this; omega) nD
      (fun H3 s3 => SqL.of (s3 _ _ hl)) (fun i H3 x H4 _ _ y => same_at i H3 x H4 y) (fun i x z H3 H4 R hi hz' s3 y s4 hR => ?_) (fun H3 s3 e3 => ?_)
    · obtain ⟨rfl, hx⟩ := y
      obtain ⟨a, s, c, rfl, hx2, hm⟩ := sizes_get rfl hx
      have hax : AxA H4 a (s, c) := (hA _ hm).same s3
      rw [List.getElem?_map, hx2] at hz'
      have ez : (s : Int) = z := Option.some.inj hz'
      subst ez
      exact ⟨a, _, rfl, SqT.of hax, rfl, _, _, rfl, _, _, rfl, rfl, rfl, _, rfl, hR _ (Same.refl _)⟩
    · refine q H3 D s3 ?_
      rw [e3, nats_ints]
      simp only [List.map_map]
      rfl
def spPacesM (C : Addr) : Sp := fun vs H Q _ => ∃ (p : Addr) (r f : Int) (axes : List (Nat × Int)), vs = [.ref p] ∧ VwA C H p r f axes ∧ ∀ (H' : Hp) (l : Addr), Same H H' → H' l = some (.lst (intL (axes.map (·.2)))) → Q (.ref l) H'
theorem ok_v_paces {f : Addr} {fd : FuncData} (F : Fun K "paces" "View.paces" s_v_paces f fd) (T : Txt K mg C) : FnOk P w K mg base CX0 1 f fd ["self"] (spPacesM C) := by
  refine F.ok sc_v_paces (fun vs H Q E h => ?_) (fun cdv A outer s H vs Q E hr h => ?_)
  · obtain ⟨p, r, f, axes, rfl, _⟩ := h
    rfl
  · obtain ⟨p, r, f, axes, rfl, hV, q⟩ := h
    obtain ⟨⟨dx, l, xs, hp, hl, hA, rfl⟩, hz⟩   := id hV
    have hb := sz_axes hz
    refine ⟨_, (pss_one (ps_ret (pe_lc (own := [("size", 1), ("pace", 2)]) (g := gTup K 2 (gCons (gName 1) (gCons (gName 2) gNil))) (tt := tYes) (by rfl) sc_v_paces.nd (k_list K (k_fld K (pv 0)))  (blkOk_by (own := [("size", 1), ("pace", 2)]) (N := N_v_paces) (sc := defScope s_v_paces) (by decide +kernel)) (fun _ _ _ _ _ => (pg_tup rfl (pgs_cons (pg_name (i := 1) sc_v_paces.nd rfl (Or.inl rfl)) (pgs_cons (pg_name (i := 2) sc_v_paces.nd rfl (Or.inl rfl)) pgs_nil)))) (fun _ _ _ _ _ => pts_nil) (fun _ _ _ _ _ => (pv 2))))), ?_⟩
    refine ⟨_, rfl, p, C, dx, _, _, rfl, hp, T.cl, T.nA, vf_axes _ _ _, l, rfl, ⟨_, SqL.of hl⟩, fun D nD => ?_⟩
    refine lc_ints (walk_list (K := K) (a := l) (xs := refL xs)) ((xs.map (·.2)).map (·.2)) (by rw [List.length_map, List.length_map, len_refL]) (by rw [len_refL]; have := hb.1; rw [List.length_map] at this; omega) nD
      (fun H3 s3 => SqL.of (s3 _ _ hl)) (fun i H3 x H4 _ _ y => same_at i H3 x H4 y) (fun i x z H3 H4 R hi hz' s3 y s4 hR => ?_) (fun H3 s3 e3 => q H3 D s3 e3)
    obtain ⟨rfl, hx⟩ := y
    obtain ⟨a, s, c, rfl, hx2, hm⟩ := sizes_get rfl hx
    have hax : AxA H4 a (s, c) := (hA _ hm).same s3
    rw [List.getElem?_map, hx2] at hz'
    have ez : c = z := Option.some.inj hz'
    subst ez
    exact ⟨a, _, rfl, SqT.of hax, rfl, _, _, rfl, _, _, rfl, rfl, rfl, _, rfl, hR _ (Same.refl _)⟩
/-! count -/
def spCountM (C : Addr) : Sp := fun vs H Q _ => ∃ (p : Addr) (r f : Int) (axes : List (Nat × Int)), vs = [.ref p] ∧ VwA C H p r f axes ∧ ∀ (H' : Hp), Same H H' → Q (nI (prod (axes.map (·.1)))) H'
theorem ok_v_count {f : Addr} {fd : FuncData} (F : Fun K "count" "View.count" s_v_count f fd) (T : Txt K mg C) (G_count_of : Cal P w K mg base "count_of" 1 ["sizes"] (spCount K)) (M_v_sizes : CalM P w K mg base C "sizes" 1 ["self"] (spSizes C)) :
    FnOk P w K mg base CX0 2 f fd ["self"] (spCountM C) := by
  refine F.ok sc_v_count (fun vs H Q E h => ?_) (fun cdv A outer s H vs Q E hr h => ?_)
  · obtain ⟨p, r, f, axes, rfl, _⟩ := h
    rfl
  · obtain ⟨p, r, f, axes, rfl, hV, q⟩ := h
    obtain ⟨⟨dx, l, xs, hp, hl, hA, hx⟩, hz⟩   := id hV
    refine ⟨_, (pss_one (ps_ret (pe_cal G_count_of hr (by rfl) (pa_cons (pe_m0 M_v_sizes (pv 0) hr) pa_nil)))), ?_⟩
    refine ⟨_, rfl, p, dx, _, rfl, hp, vm_sizes _ _ _, p, r, f, axes, rfl, hV, fun H1 l1 s1 e1 => ?_⟩
    exact ⟨l1, axes.map (·.1), rfl, SqL.of e1, hz, q H1 s1⟩
/-! cell -/
def spCell (C : Addr) : Sp := fun vs H Q _ => ∃ (p b : Addr) (r f : Int) (axes : List (Nat × Int)) (pl : Pl), vs = [.ref p, .ref b] ∧ VwA C H p r f axes ∧ PlA H b pl ∧ IsPl (axes.map (·.1)) pl ∧ ∀ (H' : Hp), Same H H' → Q (.int (f + dot pl (axes.map (·.2)))) H'
theorem ok_v_cell {f : Addr} {fd : FuncData} (F : Fun K "cell" "View.cell" s_v_cell f fd) (T : Txt K mg C) (G_number_of : Cal P w K mg base "number_of" 3 ["sizes", "place"] (spNumber K)) (M_v_sizes : CalM P w K mg base C "sizes" 1 ["self"] (spSizes C))
    (M_v_paces : CalM P w K mg base C "paces" 1 ["self"] (spPacesM C)) : FnOk P w K mg base CX0 4 f fd ["self", "place"] (spCell C) := by
  refine F.ok sc_v_cell (fun vs H Q E h => ?_) (fun cdv A outer s H vs Q E hr h => ?_)
  · obtain ⟨p, b, r, f, axes, pl, rfl, _⟩ := h
    rfl
  · obtain ⟨p, b, r, f, axes, pl, rfl, hV, hpl, hip, q⟩ := h
    obtain ⟨⟨dx, l, xs, hp, hl, hA, hx⟩, hz⟩   := id hV
    refine ⟨_, (pss_cons (ps_expr (pe_cal G_number_of hr (by rfl) (pa_cons (pe_m0 M_v_sizes (pv 0) hr) (pa_cons (pv 1) pa_nil))))
      (pss_one (ps_ret (pe_op op_add (k_fld K (pv 0)) (pe_callB (cr_sum rfl) (by rfl) T.sum b_sum (pa_cons (pe_lc (own := [("at", 2), ("pace", 3)]) (g := gTup K 2 (gCons (gName 2) (gCons (gName 3) gNil))) (tt := tYes) (by rfl) sc_v_cell.nd (pi_zipX true false (by rfl) T.zip (pa_cons (pv 1) (pa_cons (pe_m0 M_v_paces (pv 0) hr) pa_nil)))  (blkOk_by (own := [("at", 2), ("pace", 3)]) (N := N_v_cell) (sc := defScope s_v_cell) (by decide +kernel)) (fun _ _ _ _ _ => (pg_tup rfl (pgs_cons (pg_name (i := 2) sc_v_cell.nd rfl (Or.inl rfl)) (pgs_cons (pg_name (i := 3) sc_v_cell.nd rfl (Or.inl rfl)) pgs_nil)))) (fun _ _ _ _ _ => pts_nil) (fun _ _ _ _ _ => (pe_op op_mul (pv 2) (pv 3)))) pa_nil)))))), ?_⟩
    refine ⟨_, rfl, p, dx, _, rfl, hp, vm_sizes _ _ _, p, r, f, axes, rfl, hV, fun H1 l1 s1 e1 => ?_⟩
    refine ⟨_, rfl, l1, b, axes.map (·.1), pl, rfl, SqL.of e1, hpl.same s1, hip, hz, fun H2 z s2 => ?_⟩
    have s12 := s1.trans s2
    refine ⟨_, rfl, p, C, dx, _, _, rfl, s12 _ _ hp, T.cl, T.nF, vf_first _ _ _, ?_⟩
    refine ⟨_, rfl, _, rfl, p, dx, _, rfl, s12 _ _ hp, vm_paces _ _ _, p, r, f, axes, rfl, hV.same s12, fun H3 l3 s3 e3 => ?_⟩
    have s13 := s12.trans s3
    have hp3 : PlA H3 b pl := hpl.same s13
    have hlen : (pl.map nI).length = (intL (axes.map (·.2))).length := by rw [List.length_map, List.length_map, List.length_map, hip.len, List.length_map]
    refine ⟨b, l3, pl.map nI, intL (axes.map (·.2)), rfl, SqT.of hp3, SqL.of e3, fun D nD => ?_⟩
    refine lc_ints (walk_zipX (K := K) (t := true) (u := false) (a := b) (b := l3) hlen) (List.zipWith (fun (a : Nat) (c : Int) => (a : Int) * c) pl (axes.map (·.2))) (by rw [List.length_zipWith, List.length_map, List.length_map, hip.len, List.length_map, Nat.min_self])
      (by rw [List.length_map, hip.len]; have := hz.len; omega) nD (fun H4 s4 => ⟨SqT.of (hp3.same s4), SqL.of (s4 _ _ e3)⟩) (fun i H4 x H5 _ _ y => same_pair i H4 x H5 y) (fun i x z H4 H5 R hi hz' s4 y s5 hR => ?_) (fun H4 s4 e4 => ?_)
    · obtain ⟨t, x1, x2, rfl, nt, rfl, hx1, hx2⟩ := y
      obtain ⟨k, hk, rfl⟩ := natL_get (l := pl) hx1
      obtain ⟨c, hc, rfl⟩ := intL_get hx2
      have hi' : i < (axes.map (·.1)).length := by rw [List.length_map, hip.len] at hi; exact hi
      have hkb : k ≤ 6 := by
        have h1 := hip.at i hi'
        have h2 := hz.bd _ (mem_getD (z := 0) hi')
        rw [List.getD_eq_getElem?_getD, hk] at h1
        have h1' : k < (axes.map (·.1)).getD i 0 := h1
        omega
      have ez : z = (k : Int) * c := by
        rw [List.getElem?_zipWith, hk, hc] at hz'
        exact (Option.some.inj hz').symm
      subst ez
      refine ⟨t, _, rfl, SqT.of upd_same, rfl, _, _, rfl, _, _, rfl, rfl, rfl, ?_⟩
      exact ⟨_, rfl, _, rfl, _, _, rfl, rfl, .inl (nI_lt hkb (by decide)), hR _ (Same.refl _)⟩
    · refine ⟨D, _, rfl, SqL.of e4, _, _, rfl, rfl, ?_⟩
      rw [dot_zip]
      exact q H4 (s13.trans s4)
/-! least, greatest -/
def spLeast (C : Addr) : Sp := fun vs H Q _ => ∃ (p : Addr) (r f : Int) (axes : List (Nat × Int)), vs = [.ref p] ∧ VwA C H p r f axes ∧ ∀ (H' : Hp), Same H H' → Q (.int (f + lowF axes)) H'
theorem ok_v_least {f : Addr} {fd : FuncData} (F : Fun K "least" "View.least" s_v_least f fd) (T : Txt K mg C) : FnOk P w K mg base CX0 1 f fd ["self"] (spLeast C) := by
  refine F.ok sc_v_least (fun vs H Q E h => ?_) (fun cdv A outer s H vs Q E hr h => ?_)
  · obtain ⟨p, r, f, axes, rfl, _⟩ := h
    rfl
  · obtain ⟨p, r, f, axes, rfl, hV, q⟩ := h
    obtain ⟨⟨dx, l, xs, hp, hl, hA, rfl⟩, hz⟩   := id hV
    have hb := sz_axes hz
    refine ⟨_, (pss_one (ps_ret (pe_op op_add (k_fld K (pv 0)) (pe_callB (cr_sum rfl) (by rfl) T.sum b_sum (pa_cons (pe_lc (own := [("size", 1), ("pace", 2)]) (g := gTup K 2 (gCons (gName 1) (gCons (gName 2) gNil))) (tt := tYes) (by rfl) sc_v_least.nd (k_list K (k_fld K (pv 0)))  (blkOk_by (own := [("size", 1), ("pace", 2)]) (N := N_v_least) (sc := defScope s_v_least) (by decide +kernel)) (fun _ _ _ _ _ => (pg_tup rfl (pgs_cons (pg_name (i := 1) sc_v_least.nd rfl (Or.inl rfl)) (pgs_cons (pg_name (i := 2) sc_v_least.nd rfl (Or.inl rfl)) pgs_nil)))) (fun _ _ _ _ _ => pts_nil) (fun _ _ _ _ _ => (pe_callB (call_min2 rfl) (by rfl) T.min b_min (pa_cons pe_int (pa_cons (pe_op op_mul (pv 2) (pe_op op_sub (pv 1) pe_int)) pa_nil))))) pa_nil))))), ?_⟩
    refine ⟨_, rfl, p, C, dx, _, _, rfl, hp, T.cl, T.nF, vf_first _ _ _, _, rfl, p, C, dx, _, _, rfl, hp, T.cl, T.nA, vf_axes _ _ _, l, rfl, ⟨_, SqL.of hl⟩, fun D nD => ?_⟩
    refine lc_ints (walk_list (K := K) (a := l) (xs := refL xs)) (lowL (xs.map (·.2))) (by rw [lowL, List.length_map, List.length_map, len_refL]) (by rw [len_refL]; have := hb.1; rw [List.length_map] at this; omega) nD
      (fun H3 s3 => SqL.of (s3 _ _ hl)) (fun i H3 x H4 _ _ y => same_at i H3 x H4 y) (fun i x z H3 H4 R hi hz' s3 y s4 hR => ?_) (fun H3 s3 e3 => ?_)
    · obtain ⟨rfl, hx⟩ := y
      obtain ⟨a, s, c, rfl, hx2, hm⟩ := sizes_get rfl hx
      have hax : AxA H4 a (s, c) := (hA _ hm).same s3
      have hs := hb.2 s c (List.mem_of_getElem? hx2)
      rw [lowL, List.getElem?_map, hx2] at hz'
      have ez : lo1 (c * ((s : Int) - 1)) = z := Option.some.inj hz'
      subst ez
      exact ⟨a, _, rfl, SqT.of hax, rfl, _, _, rfl, _, _, rfl, rfl, rfl, _, rfl, _, rfl, _, _, rfl, rfl, _, _, rfl, rfl, .inr ⟨by omega, by omega⟩, _, _, rfl, hR _ (Same.refl _)⟩
    · exact ⟨D, _, rfl, SqL.of e3, _, _, rfl, rfl, q H3 s3⟩
def spGreatest (C : Addr) : Sp := fun vs H Q _ => ∃ (p : Addr) (r f : Int) (axes : List (Nat × Int)), vs = [.ref p] ∧ VwA C H p r f axes ∧ ∀ (H' : Hp), Same H H' → Q (.int (f + highF axes)) H'
theorem ok_v_greatest {f : Addr} {fd : FuncData} (F : Fun K "greatest" "View.greatest" s_v_greatest f fd) (T : Txt K mg C) : FnOk P w K mg base CX0 1 f fd ["self"] (spGreatest C) := by
  refine F.ok sc_v_greatest (fun vs H Q E h => ?_) (fun cdv A outer s H vs Q E hr h => ?_)
  · obtain ⟨p, r, f, axes, rfl, _⟩ := h
    rfl
  · obtain ⟨p, r, f, axes, rfl, hV, q⟩ := h
    obtain ⟨⟨dx, l, xs, hp, hl, hA, rfl⟩, hz⟩   := id hV
    have hb := sz_axes hz
    refine ⟨_, (pss_one (ps_ret (pe_op op_add (k_fld K (pv 0)) (pe_callB (cr_sum rfl) (by rfl) T.sum b_sum (pa_cons (pe_lc (own := [("size", 1), ("pace", 2)]) (g := gTup K 2 (gCons (gName 1) (gCons (gName 2) gNil))) (tt := tYes) (by rfl) sc_v_greatest.nd (k_list K (k_fld K (pv 0)))  (blkOk_by (own := [("size", 1), ("pace", 2)]) (N := N_v_greatest) (sc := defScope s_v_greatest) (by decide +kernel)) (fun _ _ _ _ _ => (pg_tup rfl (pgs_cons (pg_name (i := 1) sc_v_greatest.nd rfl (Or.inl rfl)) (pgs_cons (pg_name (i := 2) sc_v_greatest.nd rfl (Or.inl rfl)) pgs_nil)))) (fun _ _ _ _ _ => pts_nil) (fun _ _ _ _ _ => (pe_callB (call_max2 rfl) (by rfl) T.max b_max (pa_cons pe_int (pa_cons (pe_op op_mul (pv 2) (pe_op op_sub (pv 1) pe_int)) pa_nil))))) pa_nil))))), ?_⟩
    refine ⟨_, rfl, p, C, dx, _, _, rfl, hp, T.cl, T.nF, vf_first _ _ _, _, rfl, p, C, dx, _, _, rfl, hp, T.cl, T.nA, vf_axes _ _ _, l, rfl, ⟨_, SqL.of hl⟩, fun D nD => ?_⟩
    refine lc_ints (walk_list (K := K) (a := l) (xs := refL xs)) (highL (xs.map (·.2))) (by rw [highL, List.length_map, List.length_map, len_refL]) (by rw [len_refL]; have := hb.1; rw [List.length_map] at this; omega) nD
      (fun H3 s3 => SqL.of (s3 _ _ hl)) (fun i H3 x H4 _ _ y => same_at i H3 x H4 y) (fun i x z H3 H4 R hi hz' s3 y s4 hR => ?_) (fun H3 s3 e3 => ?_)
    · obtain ⟨rfl, hx⟩ := y
      obtain ⟨a, s, c, rfl, hx2, hm⟩ := sizes_get rfl hx
      have hax : AxA H4 a (s, c) := (hA _ hm).same s3
      have hs := hb.2 s c (List.mem_of_getElem? hx2)
      rw [highL, List.getElem?_map, hx2] at hz'
      have ez : hi1 (c * ((s : Int) - 1)) = z := Option.some.inj hz'
      subst ez
      exact ⟨a, _, rfl, SqT.of hax, rfl, _, _, rfl, _, _, rfl, rfl, rfl, _, rfl, _, rfl, _, _, rfl, rfl, _, _, rfl, rfl, .inr ⟨by omega, by omega⟩, _, _, rfl, hR _ (Same.refl _)⟩
    · exact ⟨D, _, rfl, SqL.of e3, _, _, rfl, rfl, q H3 s3⟩
/-! cells -/
def spCells (C : Addr) : Sp := fun vs H Q _ => ∃ (p : Addr) (r f : Int) (axes : List (Nat × Int)), vs = [.ref p] ∧ VwA C H p r f axes ∧ ∀ (H' : Hp) (l : Addr), Same H H' → H' l = some (.lst (intL (cellsF f axes))) → Q (.ref l) H'
theorem ok_v_cells {f : Addr} {fd : FuncData} (F : Fun K "cells" "View.cells" s_v_cells f fd) (T : Txt K mg C) (M_v_count : CalM P w K mg base C "count" 2 ["self"] (spCountM C)) : FnOk P w K mg base CX0 3 f fd ["self"] (spCells C) := by
  refine F.ok sc_v_cells (fun vs H Q E h => ?_) (fun cdv A outer s H vs Q E hr h => ?_)
  · obtain ⟨p, r, f, axes, rfl, _⟩ := h
    rfl
  · obtain ⟨p, r, f, axes, rfl, hV, q⟩ := h
    obtain ⟨⟨dx, l, xs, hp, hl, hA, hx⟩, hz⟩   := id hV
    have hb := sz_axes hz
    have hpr := hz.prod
    refine ⟨_, (pss_cons (ps_if (pt_cmpR op_gt (pe_m0 M_v_count (pv 0) hr) (pe_gc (by rfl) T.cVi) (nomark _)) pss_never pss_nil)
      (pss_cons (ps_set (i := 1) sc_v_cells.nd rfl (Or.inl rfl) (pe_lst (pa_cons (k_fld K (pv 0)) pa_nil)))
      (pss_cons (ps_for PassesOwn.never rfl (k_list K (k_fld K (pv 0))) (pg_tup rfl (pgs_cons (pg_name (i := 2) sc_v_cells.nd rfl (Or.inl rfl)) (pgs_cons (pg_name (i := 3) sc_v_cells.nd rfl (Or.inr rfl)) pgs_nil))) (pss_cons (ps_set (i := 4) sc_v_cells.nd rfl (Or.inl rfl) (pe_lst pa_nil))
      (pss_cons (ps_for PassesOwn.never rfl (k_list K (pv 1)) (pg_name (i := 5) sc_v_cells.nd rfl (Or.inr rfl)) (pss_one (ps_expr (pe_bm PySem.F.plainAttrs_list PySem.F.slot_list_extend PySem.F.type_list_extend mt_extend (pv 4) (pa_cons (pe_lc (own := [("at", 6)]) (g := gName 6) (tt := tYes) (by rfl) sc_v_cells.nd (pi_range1 rfl T.range (pa_cons (pv 2) pa_nil))  (blkOk_by (own := [("at", 6)]) (N := N_v_cells) (sc := defScope s_v_cells) (by decide +kernel)) (fun _ _ _ _ _ => (pg_name (i := 6) sc_v_cells.nd rfl (Or.inl rfl))) (fun _ _ _ _ _ => pts_nil) (fun _ _ _ _ _ => (pe_op op_add (pv 5) (pe_op op_mul (pv 3) (pv 6))))) pa_nil)))))
      (pss_one (ps_set (i := 1) sc_v_cells.nd rfl (Or.inl rfl) (pv 4))))))
      (pss_one (ps_ret (pv 1)))))), ?_⟩
    refine ⟨_, rfl, p, dx, _, rfl, hp, vm_count _ _ _, p, r, f, axes, rfl, hV, fun H1 s1 => ?_⟩
    refine ⟨_, _, rfl, rfl, _, rfl, ?_⟩
    rw [decide_eq_false (show ¬ ((4096 : Int) < ((prod (axes.map (·.1)) : Nat) : Int)) by omega)]
    refine iteF ⟨_, rfl, p, C, dx, _, _, rfl, s1 _ _ hp, T.cl, T.nF, vf_first _ _ _, by show 1 ≤ sizeLine; decide, fun g0 ng0 => ?_⟩
    have sg0 : Same H (upd H1 g0 (.lst [.int f])) := same_new s1 (Same.free s1 ng0)
    refine ⟨_, rfl, p, C, dx, _, _, rfl, sg0 _ _ hp, T.cl, T.nA, vf_axes _ _ _, l, rfl, ⟨_, SqL.of (sg0 _ _ hl)⟩, for_list (K := K) (a := l) (xs := refL xs) (fun i σ H2 => ∃ (lf : Addr) (v2 v3 v4 v5 : Option V), σ = [some (.ref p), some (.ref lf), v2, v3, v4, v5, none] ∧
        Same H H2 ∧ H2 lf = some (.lst (intL (cellsF f (axes.take i)))))
      ⟨g0, none, none, none, none, rfl, sg0, upd_same⟩ (fun i σ H2 _ ⟨_, _, _, _, _, _, s2, _⟩ => SqL.of (s2 _ _ hl)) ?_ ?_⟩
    · rintro i y σ H2 hi ⟨lf, v2, v3, v4, v5, rfl, s2, ef⟩
      obtain ⟨a, n, c, rfl, hx2, hm⟩ := sizes_get hx hi
      have hax : AxA H2 a (n, c) := (hA _ hm).same s2
      have hs := hb.2 n c (List.mem_of_getElem? hx2)
      have hfl : (cellsF f (axes.take i)).length ≤ 216 := by
        rw [len_cellsF, List.map_take]
        exact (hz.take i).prod
      refine ⟨a, _, rfl, SqT.of hax, rfl, _, _, rfl, _, _, rfl, rfl, ?_⟩
      -- longer = []
      refine ⟨Nat.zero_le _, fun g ng => ?_⟩
      have sg : Same H2 (upd H2 g (.lst [])) := same_upd ng
      refine ⟨_, rfl, lf, rfl, ⟨_, SqL.of (sg _ _ ef)⟩, for_list (K := K) (a := lf) (xs := intL (cellsF f (axes.take i))) (fun j σ H3 => ∃ (v5 : Option V), σ = [some (.ref p), some (.ref lf), some (nI n), some (.int c), some (.ref g), v5, none] ∧
          Same H2 H3 ∧ H3 g = some (.lst (intL (((cellsF f (axes.take i)).take j).flatMap (cell1 n c)))))
        ⟨v5, rfl, sg, upd_same⟩ (fun j σ H3 _ ⟨_, _, s3, _⟩ => SqL.of (s3 _ _ ef)) ?_ ?_⟩
      · rintro j y σ H3 hj ⟨v5, rfl, s3, eg⟩
        obtain ⟨z, hzj, rfl⟩ := intL_get hj
        have hjl : j < (cellsF f (axes.take i)).length := (List.getElem?_eq_some_iff.mp hzj).1
        have hql : (((cellsF f (axes.take i)).take j).flatMap (cell1 n c)).length ≤ 1296 := by
          rw [len_flatMap (cell1 n c) n _ fun p _ => len_cell1 n c p, List.length_take]
          exact Nat.mul_le_mul (show min j _ ≤ 216 by omega) hs.2
        refine ⟨_, rfl, .inl ⟨rfl, _, SqL.of eg⟩, _, rfl, _, rfl, by omega, by omega, fun D nD => ?_⟩
        refine lc_ints (walk_range (lo := 0) (n := n)) (cell1 n c z) (len_cell1 n c z) (by omega) nD (fun _ _ => trivial) (fun k H4 x H5 _ _ y => same_fn k H4 x H5 y) (fun k x u H4 H5 R hk hu s4 y s5 hR => ?_) (fun H4 s4 e4 => ?_)
        · obtain ⟨rfl, rfl⟩ := y
          unfold cell1 at hu
          rw [List.getElem?_map, List.getElem?_range hk] at hu
          have eu : z + c * (k : Int) = u := Option.some.inj hu
          subst eu
          refine ⟨rfl, _, rfl, _, rfl, _, rfl, _, _, rfl, rfl, .inr ⟨by omega, by omega⟩, _, _, rfl, rfl, ?_⟩
          rw [Int.zero_add]
          exact hR _ (Same.refl _)
        · have eg4 := s4 _ _ eg
          refine ⟨g, D, _, _, rfl, rfl, eg4, e4, by rw [List.length_map, List.length_map, len_cell1]; exact Nat.le_of_lt (small (by omega)), some (.int z), rfl, Same.butNew (s3.trans s4) (But.upd _ _ _) ng, ?_⟩
          rw [upd_same, flat_take_snoc _ hzj, intL_append]
      · rintro σ H3 ⟨v5, rfl, s3, eg⟩
        refine ⟨_, rfl, g, _, _, _, _, rfl, s2.trans s3, ?_⟩
        rw [eg, List.length_map, List.take_length, take_snoc hx2, cellsF_snoc]
        rfl
    · rintro σ H2 ⟨lf, v2, v3, v4, v5, rfl, s2, ef⟩
      refine ⟨_, rfl, q H2 lf s2 ?_⟩
      rw [ef, len_refL, show xs.length = axes.length by rw [← hx, List.length_map], List.take_length]
/-! __init__ -/
def spInit (C : Addr) : Sp := fun vs H Q _ => ∃ (p dx la : Addr) (r f : Int) (xs : List (Addr × (Nat × Int))), vs = [.ref p, .int r, .int f, .ref la] ∧ H p = some (.ins C dx []) ∧ H la = some (.lst (refL xs)) ∧ AllA AxA H xs ∧ SzOk ((xs.map (·.2)).map (·.1)) ∧
  1 ≤ r ∧ r ≤ 10 ^ 18 ∧ 0 ≤ f + lowF (xs.map (·.2)) ∧ f + highF (xs.map (·.2)) < r ∧ ∀ (H' : Hp), But p H H' → VwA C H' p r f (keptF (xs.map (·.2))) → Q .non H'
theorem ok_v_init {f : Addr} {fd : FuncData} (F : Fun K "__init__" "View.__init__" s_v_init f fd) (T : Txt K mg C) (G_is_whole : Cal P w K mg base "is_whole" 1 ["thing"] spWhole) (G_kept_axes : Cal P w K mg base "kept_axes" 3 ["axes"] spKept)
    (M_v_least : CalM P w K mg base C "least" 1 ["self"] (spLeast C)) (M_v_greatest : CalM P w K mg base C "greatest" 1 ["self"] (spGreatest C)) : FnOk P w K mg base CX0 4 f fd ["self", "room", "first", "axes"] (spInit C) := by
  refine F.ok sc_v_init (fun vs H Q E h => ?_) (fun cdv A outer s H vs Q E hr h => ?_)
  · obtain ⟨p, dx, la, r, f, xs, rfl, _⟩ := h
    rfl
  · obtain ⟨p, dx, la, r, f, xs, rfl, hp, hl, hA, hz, r1, r2, c1, c2, q⟩ := h
    refine ⟨_, (pss_cons (ps_if (PW.pt (pw_or (pt_not (pt_val (pe_cal G_is_whole hr (by rfl) (pa_cons (pv 1) pa_nil)))) (pw_or1 (pt_not (pt_chain op_le op_le pe_int (pv 1) (pe_gc (by rfl) T.cRo)))))) pss_never pss_nil)
      (pss_cons (ps_if (pt_not (pt_val (pe_cal G_is_whole hr (by rfl) (pa_cons (pv 2) pa_nil)))) pss_never pss_nil)
      (pss_cons (ps_fld (pv 0) (pv 1) rfl)
      (pss_cons (ps_fld (pv 0) (pv 2) rfl)
      (pss_cons (ps_fld (pv 0) (pe_cal G_kept_axes hr (by rfl) (pa_cons (pv 3) pa_nil)) rfl)
      (pss_one (ps_if (PW.pt (pw_or (pt_cmpR op_lt (pe_m0 M_v_least (pv 0) hr) pe_int (nomark _)) (pw_or1 (pt_cmpR op_ge (pe_m0 M_v_greatest (pv 0) hr) (pv 1) (nomark _))))) pss_never pss_nil))))))), ?_⟩
    refine ⟨_, rfl, _, rfl, true, rfl, iteF ?_⟩
    refine ⟨_, rfl, _, _, rfl, rfl, true, congrArg V.bl (decide_eq_true r1), iteT ⟨_, _, rfl, rfl, true, congrArg V.bl (decide_eq_true r2), iteF ?_⟩⟩
    refine ⟨_, rfl, _, rfl, true, rfl, iteF ?_⟩
    refine ⟨_, rfl, _, rfl, p, C, dx, _, rfl, hp, T.cl, T.nR, by show 0 < 1000; decide, ?_⟩
    refine ⟨_, rfl, _, rfl, p, C, dx, _, rfl, upd_same, T.cl, T.nF, by show 1 < 1000; decide, ?_⟩
    rw [upd_upd]
    -- the heap with room and first
    generalize eH : upd H p (.ins C dx (putF "first" (.int f) (putF "room" (.int r) []))) = H1
    have b1 : But p H H1 := by rw [← eH]; exact But.upd _ _ _
    have hp1 : H1 p = some (.ins C dx (putF "first" (.int f) (putF "room" (.int r) []))) := by rw [← eH]; exact upd_same
    have npl : la ≠ p := ne_of hl hp (by intro z; cases z)
    refine ⟨_, rfl, la, xs, rfl, b1 _ _ hl npl, hA.imp fun a x k => b1.ax hp (fun z => z) k, hz, fun H2 l ys s2 el hY hys => ?_⟩
    have hp2 := s2 _ _ hp1
    have npl2 : l ≠ p := ne_of el hp2 (by intro z; cases z)
    refine ⟨_, rfl, p, C, dx, _, rfl, hp2, T.cl, T.nA, by show 2 < 1000; decide, ?_⟩
    have b3 : But p H2 (upd H2 p (.ins C dx (vf r f l))) := But.upd _ _ _
    have V3 : VwA C (upd H2 p (.ins C dx (vf r f l))) p r f (keptF (xs.map (·.2))) :=
      ⟨⟨dx, l, ys, upd_same, b3 _ _ el npl2, hY.imp fun a x k => b3.ax hp2 (fun z => z) k, hys⟩, by rw [sizes_kept]; exact hz⟩
    have hlow : lowF (keptF (xs.map (·.2))) = lowF (xs.map (·.2)) := by unfold lowF; rw [lowL_kept]
    have hhigh : highF (keptF (xs.map (·.2))) = highF (xs.map (·.2)) := by unfold highF; rw [highL_kept]
    refine ⟨_, rfl, p, dx, _, rfl, upd_same, vm_least _ _ _, p, r, f, _, rfl, V3, fun H4 s4 => ?_⟩
    refine ⟨_, _, rfl, rfl, _, rfl, ?_⟩
    rw [hlow, decide_eq_false (show ¬ (f + lowF (xs.map (·.2)) < 0) by omega)]
    obtain ⟨⟨dx4, l4, xs4, hp4, _⟩, _⟩ := V3.same s4
    refine iteF ⟨_, rfl, p, dx4, _, rfl, hp4, vm_greatest _ _ _, p, r, f, _, rfl, V3.same s4, fun H5 s5 => ?_⟩
    refine ⟨_, rfl, _, _, rfl, rfl, _, rfl, ?_⟩
    rw [hhigh, decide_eq_false (show ¬ (r ≤ f + highF (xs.map (·.2))) by omega)]
    refine iteF (q H5 ?_ ((V3.same s4).same s5))
    exact ((b1.trans (Same.but s2)).trans b3).trans (Same.but (s4.trans s5))
end
end PH

/-! The walks: bound pairs. -/
namespace PH
open PySem PySem.Spec PyProof.Rows L2
/-! places and pairs as data -/
def dPl (p : Pl) : PyData := .tuple (p.map fun n : Nat => PyData.int (n : Int))
def dPr (x : PP) : PyData := .tuple [dPl x.1, dPl x.2]
def dIs (l : List Int) : PyData := .list (l.map PyData.int)
theorem eqvAll_nums : ∀ p q : Pl, PyData.eqvAll (p.map fun n : Nat => PyData.int (n : Int)) (q.map fun n : Nat => PyData.int (n : Int)) = decide (p = q)
  | [], [] => by simp [PyData.eqvAll]
  | [], _ :: _ => by simp [PyData.eqvAll]
  | _ :: _, [] => by simp [PyData.eqvAll]
  | a :: p, b :: q => by
    rw [List.map_cons, List.map_cons, PyData.eqvAll, eqvAll_nums p q, PyData.eqv, Bool.eq_iff_iff]
    simp only [Bool.and_eq_true, beq_iff_eq, decide_eq_true_eq, List.cons.injEq]
    exact ⟨fun h => ⟨Int.ofNat.inj h.1, h.2⟩, fun h => ⟨congrArg Int.ofNat h.1, h.2⟩⟩
theorem eqvAll_ints : ∀ p q : List Int, PyData.eqvAll (p.map PyData.int) (q.map PyData.int) = decide (p = q)
  | [], [] => by simp [PyData.eqvAll]
  | [], _ :: _ => by simp [PyData.eqvAll]
  | _ :: _, [] => by simp [PyData.eqvAll]
  | a :: p, b :: q => by
    rw [List.map_cons, List.map_cons, PyData.eqvAll, eqvAll_ints p q, PyData.eqv, Bool.eq_iff_iff]
    simp only [Bool.and_eq_true, beq_iff_eq, decide_eq_true_eq, List.cons.injEq]
theorem eqv_pl (p q : Pl) : PyData.eqv (dPl p) (dPl q) = decide (p = q) := by
  unfold dPl
  rw [PyData.eqv, eqvAll_nums]
theorem eqv_pr (x y : PP) : PyData.eqv (dPr x) (dPr y) = decide (x = y) := by
  unfold dPr
  rw [PyData.eqv, PyData.eqvAll, PyData.eqvAll, PyData.eqvAll, eqv_pl, eqv_pl, Bool.eq_iff_iff]
  simp only [Bool.and_eq_true, decide_eq_true_eq, and_true, Prod.ext_iff]
theorem eqv_is (l m : List Int) : PyData.eqv (dIs l) (dIs m) = decide (l = m) := by
  unfold dIs
  rw [PyData.eqv, eqvAll_ints]
theorem eqv_nil (ds : List PyData) : PyData.eqv (.list ds) (.list []) = ds.isEmpty := by
  rw [PyData.eqv]
  cases ds with
  | nil => rfl
  | cons x r => rfl
def Gd (n : Nat) (d : PyData) : Prop := d.canLay0 = true ∧ d.depth ≤ n
theorem gd_all {n : Nat} : ∀ {ds : List PyData}, (∀ d ∈ ds, Gd n d) → PyData.canLayAll0 ds = true ∧ PyData.depthAll ds ≤ n
  | [], _ => ⟨by rw [PyData.canLayAll0], by rw [PyData.depthAll]; exact Nat.zero_le _⟩
  | d :: ds, h => by
    have h1 := h d List.mem_cons_self
    have h2 := gd_all (ds := ds) fun x hx => h x (List.mem_cons_of_mem _ hx)
    refine ⟨?_, ?_⟩
    · rw [PyData.canLayAll0, h1.1, h2.1]; rfl
    · rw [PyData.depthAll]
      have := h1.2
      omega
theorem gd_list {n : Nat} {ds : List PyData} (h : ∀ d ∈ ds, Gd n d) : Gd (n + 1) (.list ds) := by
  have k := gd_all h
  refine ⟨?_, ?_⟩
  · rw [PyData.canLay0]; exact k.1
  · rw [PyData.depth]; omega
theorem gd_tup {n : Nat} {ds : List PyData} (h : ∀ d ∈ ds, Gd n d) : Gd (n + 1) (.tuple ds) := by
  have k := gd_all h
  refine ⟨?_, ?_⟩
  · rw [PyData.canLay0]; exact k.1
  · rw [PyData.depth]; omega
theorem gd_int (i : Int) : Gd 0 (.int i) := ⟨by rw [PyData.canLay0], by rw [PyData.depth]; exact Nat.le_refl _⟩
theorem gd_pl (p : Pl) : Gd 1 (dPl p) := gd_tup fun d hd => by
  obtain ⟨n, _, rfl⟩ := List.mem_map.mp hd
  exact gd_int _
theorem gd_pr (x : PP) : Gd 2 (dPr x) := gd_tup fun d hd => by
  have hd' : d = dPl x.1 ∨ d = dPl x.2 := by simpa using hd
  rcases hd' with rfl | rfl
  · exact gd_pl _
  · exact gd_pl _
theorem gd_is (l : List Int) : Gd 1 (dIs l) := gd_list fun d hd => by
  obtain ⟨n, _, rfl⟩ := List.mem_map.mp hd
  exact gd_int _
theorem gd_prs (l : List PP) : Gd 3 (.list (l.map dPr)) := gd_list fun d hd => by
  obtain ⟨x, _, rfl⟩ := List.mem_map.mp hd
  exact gd_pr _
theorem gd_nil : Gd 1 (.list []) := gd_list fun d hd => by simp at hd
theorem Gd.shaped {n : Nat} {d : PyData} (h : Gd n d) (hn : n ≤ 64) : SeqAt.shaped d = true := by
  unfold SeqAt.shaped
  rw [h.1, decide_eq_true (Nat.le_trans h.2 hn)]
  rfl
section
variable {K : PySem.W.Frag} {H : Hp}
theorem dp_nums : ∀ p : Pl, DpAll K H (p.map nI) (p.map fun n : Nat => PyData.int (n : Int))
  | [] => .nil
  | a :: p => .cons (.int _) (dp_nums p)
theorem dp_ints : ∀ l : List Int, DpAll K H (intL l) (l.map PyData.int)
  | [] => .nil
  | a :: l => .cons (.int _) (dp_ints l)
theorem dp_pl {a : Addr} {p : Pl} (h : PlA H a p) : Dp K H (.ref a) (dPl p) := .tup (SqT.of h) (dp_nums p)
theorem dp_pr {a : Addr} {x : PP} (h : PrA H a x) : Dp K H (.ref a) (dPr x) := by
  obtain ⟨b, c, e, e1, e2⟩ := h
  exact .tup (SqT.of e) (.cons (dp_pl e1) (.cons (dp_pl e2) .nil))
theorem dp_is {a : Addr} {l : List Int} (h : SqL K H a (intL l)) : Dp K H (.ref a) (dIs l) := .lst h (dp_ints l)
theorem dp_prs {a : Addr} {l : List (Addr × PP)} (h : H a = some (.lst (refL l))) (hA : AllA PrA H l) : Dp K H (.ref a) (.list ((l.map (·.2)).map dPr)) := by
  refine .lst (SqL.of h) ?_
  clear h
  induction l with
  | nil => exact .nil
  | cons x r ih => exact .cons (dp_pr (hA x List.mem_cons_self)) (ih fun y hy => hA y (List.mem_cons_of_mem _ hy))
theorem dp_nil {a : Addr} (h : H a = some (.lst [])) : Dp K H (.ref a) (.list []) := .lst (SqL.of h) .nil
end
theorem prA_same : ∀ (H H' : Hp) (a : Addr) (x : PP), Same H H' → PrA H a x → PrA H' a x := fun _ _ _ _ s h => h.same s
theorem prA_but : ∀ (H H' : Hp) (D a : Addr) (xs : List V) (x : PP), H D = some (.lst xs) → But D H H' → PrA H a x → PrA H' a x := fun _ _ _ _ _ _ e b h => b.pr e (fun z => z) h
theorem nodup_placesR : ∀ sz : List Nat, (placesR sz).Nodup
  | [] => by simp [placesR]
  | s :: r => by
    unfold placesR
    show List.Pairwise _ _
    rw [List.pairwise_flatMap]
    refine ⟨fun a _ => ?_, ?_⟩
    · rw [List.pairwise_map]
      exact (nodup_placesR r).imp fun {p q} h e => h (by injection e)
    · refine (List.nodup_range (n := s)).imp fun {a b} h => ?_
      intro x hx y hy e
      obtain ⟨p, _, rfl⟩ := List.mem_map.mp hx
      obtain ⟨q, _, rfl⟩ := List.mem_map.mp hy
      injection e with e1 _
      exact h e1
/-- each cell once -/
def Once (f : Int) (axes : List (Nat × Int)) : Prop := ∀ p q, IsPl (axes.map (·.1)) p → IsPl (axes.map (·.1)) q → f + dot p (axes.map (·.2)) = f + dot q (axes.map (·.2)) → p = q
theorem nodup_cellsF {f : Int} {axes : List (Nat × Int)} (h : Once f axes) : (cellsF f axes).Nodup := by
  unfold cellsF
  rw [cellsF_eq]
  show List.Pairwise _ _
  rw [List.pairwise_map]
  have nd : List.Pairwise (fun p q : Pl => p ≠ q) (placesR (axes.map fun x => x.1)) := nodup_placesR _
  exact nd.imp_of_mem fun {p q} hp hq hne e => hne (h p q (mem_placesR.mp hp) (mem_placesR.mp hq) e)
theorem notin_take {α : Type} {l : List α} (h : l.Nodup) {i : Nat} {x : α} (e : l[i]? = some x) : x ∉ l.take i := fun hm => by
  obtain ⟨j, hj⟩ := List.mem_iff_getElem?.mp hm
  rw [List.getElem?_take] at hj
  split at hj
  · rename_i hlt
    have := nd_ix h hj e
    omega
  · cases hj
section
variable {P : Program} {w : World} {K : PySem.W.Frag} {mg : Str → Option Value} {base : Heap} {C : Addr}
/-! need_few, need_alike -/
def spFew (K : PySem.W.Frag) : Sp := fun vs H Q _ => ∃ (a : Addr) (sz : List Nat), vs = [.ref a] ∧ SqL K H a (natL sz) ∧ SzOk sz ∧ Q .non H
theorem ok_need_few {f : Addr} {fd : FuncData} (F : Fun K "need_few" "need_few" s_need_few f fd) (T : Txt K mg C) (G_count_of : Cal P w K mg base "count_of" 1 ["sizes"] (spCount K)) : FnOk P w K mg base CX0 2 f fd ["sizes"] (spFew K) := by
  refine F.ok sc_need_few (fun vs H Q E h => ?_) (fun cdv A outer s H vs Q E hr h => ?_)
  · obtain ⟨a, sz, rfl, _⟩ := h
    rfl
  · obtain ⟨a, sz, rfl, hS, hz, q⟩ := h
    have hp := hz.prod
    refine ⟨_, (pss_cons (ps_set (i := 1) sc_need_few.nd rfl (Or.inl rfl) (pe_cal G_count_of hr (by rfl) (pa_cons (pv 0) pa_nil)))
      (pss_one (ps_if (pt_cmpR op_gt (pv 1) (pe_gc (by rfl) T.cLo) (nomark _)) pss_never pss_nil))), ?_⟩
    refine ⟨_, rfl, a, sz, rfl, hS, hz, ?_⟩
    refine ⟨_, rfl, _, _, rfl, rfl, _, rfl, ?_⟩
    rw [decide_eq_false (show ¬ ((4096 : Int) < ((prod sz : Nat) : Int)) by omega)]
    exact iteF q
def spAlike (C : Addr) : Sp := fun vs H Q _ => ∃ (p p2 : Addr) (r f f2 : Int) (axes axes2 : List (Nat × Int)), vs = [.ref p, .ref p2] ∧ VwA C H p r f axes ∧ VwA C H p2 r f2 axes2 ∧ axes2.map (·.1) = axes.map (·.1) ∧ ∀ (H' : Hp), Same H H' → Q .non H'
theorem ok_need_alike {f : Addr} {fd : FuncData} (F : Fun K "need_alike" "need_alike" s_need_alike f fd) (T : Txt K mg C) (M_v_sizes : CalM P w K mg base C "sizes" 1 ["self"] (spSizes C)) : FnOk P w K mg base CX0 2 f fd ["to", "source"] (spAlike C) := by
  refine F.ok sc_need_alike (fun vs H Q E h => ?_) (fun cdv A outer s H vs Q E hr h => ?_)
  · obtain ⟨p, p2, r, f, f2, axes, axes2, rfl, _⟩ := h
    rfl
  · obtain ⟨p, p2, r, f, f2, axes, axes2, rfl, h1, h2, e, q⟩ := h
    obtain ⟨⟨dx, l, xs, hp, _⟩, _⟩ := id h1
    obtain ⟨⟨dx2, l2, xs2, hp2, _⟩, _⟩ := id h2
    refine ⟨_, (pss_cons (ps_if (pt_cmpR op_ne (k_fld K (pv 0)) (k_fld K (pv 1)) (nomark _)) pss_never pss_nil)
      (pss_one (ps_if (pt_cmpR (op_neD hr.units) (pe_m0 M_v_sizes (pv 0) hr) (pe_m0 M_v_sizes (pv 1) hr) (nomark _)) pss_never pss_nil))), ?_⟩
    refine ⟨_, rfl, p, C, dx, _, _, rfl, hp, T.cl, T.nR, vf_room _ _ _, _, rfl, p2, C, dx2, _, _, rfl, hp2, T.cl, T.nR, vf_room _ _ _, rfl, _, rfl, iteNS rfl ?_⟩
    refine ⟨_, rfl, p, dx, _, rfl, hp, vm_sizes _ _ _, p, r, f, axes, rfl, h1, fun H1 a1 s1 e1 => ?_⟩
    refine ⟨_, rfl, p2, dx2, _, rfl, s1 _ _ hp2, vm_sizes _ _ _, p2, r, f2, axes2, rfl, h2.same s1, fun H2 a2 s2 e2 => ?_⟩
    rw [e] at e2
    rw [nats_ints] at e1 e2
    refine ⟨_, _, dp_is (SqL.of (s2 _ _ e1)), dp_is (SqL.of e2), (gd_is _).shaped (by decide), (gd_is _).shaped (by decide), _, rfl, ?_⟩
    rw [eqv_is]
    exact iteNS rfl (q H2 (s1.trans s2))
/-! has_twice, need_once -/
def spTwice (C : Addr) : Sp := fun vs H Q _ => ∃ (p : Addr) (r f : Int) (axes : List (Nat × Int)), vs = [.ref p] ∧ VwA C H p r f axes ∧ Once f axes ∧ ∀ (H' : Hp), Same H H' → Q .non H'
theorem ok_has_twice {f : Addr} {fd : FuncData} (F : Fun K "has_twice" "has_twice" s_has_twice f fd) (T : Txt K mg C) (M_v_count : CalM P w K mg base C "count" 2 ["self"] (spCountM C)) (M_v_cells : CalM P w K mg base C "cells" 3 ["self"] (spCells C)) :
    FnOk P w K mg base CX0 4 f fd ["view"] (spTwice C) := by
  refine F.ok sc_has_twice (fun vs H Q E h => ?_) (fun cdv A outer s H vs Q E hr h => ?_)
  · obtain ⟨p, r, f, axes, rfl, _⟩ := h
    rfl
  · obtain ⟨p, r, f, axes, rfl, hV, ho, q⟩ := h
    obtain ⟨⟨dx, l, xs, hp, hl, hA, hx⟩, hz⟩ := id hV
    have hpr := hz.prod
    have nd := nodup_cellsF ho
    refine ⟨_, (pss_cons (ps_if (pt_cmpR op_gt (pe_m0 M_v_count (pv 0) hr) (pe_gc (by rfl) T.cFl) (nomark _)) pss_never pss_nil)
      (pss_cons (ps_set (i := 1) sc_has_twice.nd rfl (Or.inl rfl) pe_dnewK)
      (pss_cons (ps_for PassesOwn.never rfl (pi_enum (by rfl) T.enumerate (pa_cons (pe_m0 M_v_cells (pv 0) hr) pa_nil)) (pg_tup rfl (pgs_cons (pg_name (i := 2) sc_has_twice.nd rfl (Or.inl rfl)) (pgs_cons (pg_name (i := 3) sc_has_twice.nd rfl (Or.inl rfl)) pgs_nil))) (pss_cons (ps_if (pt_cmp (pc_din (hu_of hr) (pv 3) (pv 1)) rfl) pss_never pss_nil)
      (pss_one (ps_dput (hu_of hr) (pv 1) (pv 3) (pv 2) rfl))))
      (pss_one (ps_ret pe_non))))), ?_⟩
    refine ⟨_, rfl, p, dx, _, rfl, hp, vm_count _ _ _, p, r, f, axes, rfl, hV, fun H1 s1 => ?_⟩
    refine ⟨_, _, rfl, rfl, _, rfl, ?_⟩
    rw [decide_eq_false (show ¬ ((4096 : Int) < ((prod (axes.map (·.1)) : Nat) : Int)) by omega)]
    refine iteF (fun d nd0 => ?_)
    have sd : Same H (upd H1 d (.dK [])) := same_new s1 (Same.free s1 nd0)
    have nd1 : H d = none := Same.free s1 nd0
    refine ⟨_, rfl, p, dx, _, rfl, sd _ _ hp, vm_cells _ _ _, p, r, f, axes, rfl, hV.same sd, fun H2 lc s2 ec => ?_⟩
    have s02 : Same H H2 := sd.trans s2
    refine ⟨lc, _, rfl, SqL.of ec, for_it (walk_enum (K := K) (a := lc) (xs := intL (cellsF f axes))) (fun i σ H3 => ∃ (v2 v3 : Option V) (kvs : List (Key × V)), σ = [some (.ref p), some (.ref d), v2, v3] ∧ Same H H3 ∧ H3 lc = some (.lst (intL (cellsF f axes))) ∧ H3 d = some (.dK kvs) ∧ kvs.length ≤ i ∧
        ∀ x : Int, x ∉ (cellsF f axes).take i → valV kvs (Sum.inl x : Key) = none)
      ⟨none, none, [], rfl, s02, ec, s2 _ _ upd_same, Nat.le_refl _, fun x _ => rfl⟩ (fun i σ H3 _ ⟨_, _, _, _, _, e3, _⟩ => SqL.of e3) ?_ ?_⟩
    · rintro i y σ H3 H4 hi ⟨v2, v3, kvs, rfl, s3, e3, ed, hk, hno⟩ ⟨t, x1, x2, rfl, nt, rfl, hx1, hx2⟩
      have ex1 : V.int (i : Nat) = x1 := Option.some.inj hx1
      subst ex1
      obtain ⟨z, hz1, rfl⟩ := intL_get hx2
      have hi' : i < prod (axes.map (·.1)) := by rw [List.length_map, len_cellsF] at hi; exact hi
      have st : Same H3 (upd H3 t (.tup [.int (i : Nat), .int z])) := same_upd nt
      have ed4 := st _ _ ed
      have hnone := hno z (notin_take nd hz1)
      refine ⟨t, _, rfl, SqT.of upd_same, rfl, _, _, rfl, _, _, rfl, rfl, ?_⟩
      refine ⟨_, rfl, _, rfl, d, _, rfl, DGet.k (k := Sum.inl z) ed4, _, rfl, ?_⟩
      rw [hnone]
      refine iteF ⟨_, rfl, _, rfl, _, rfl, d, _, rfl, DPut.k (k := Sum.inl z) ed4 (small (by omega)), ?_⟩
      have b4 : But d (upd H3 t (.tup [.int (i : Nat), .int z])) (upd (upd H3 t (.tup [.int (i : Nat), .int z])) d (.dK (putK kvs (Sum.inl z : Key) (.int (i : Nat))))) := But.upd _ _ _
      refine ⟨_, _, _, rfl, Same.butNew (s3.trans st) b4 nd1, b4 _ _ (st _ _ e3) (ne_of e3 ed (by intro z; cases z)), upd_same, Nat.le_trans (length_putK _ _ _) (Nat.succ_le_succ hk), fun x hx => ?_⟩
      rw [take_snoc hz1] at hx
      have hx' : x ∉ (cellsF f axes).take i ∧ x ≠ z := by
        constructor
        · exact fun z => hx (List.mem_append_left _ z)
        · exact fun e => hx (List.mem_append_right _ (by rw [e]; exact List.mem_singleton_self _))
      rw [valV_put, if_neg (fun e => hx'.2 (by injection e))]
      exact hno x hx'.1
    · rintro σ H3 ⟨v2, v3, kvs, rfl, s3, _⟩
      exact q H3 s3
theorem ok_need_once {f : Addr} {fd : FuncData} (F : Fun K "need_once" "need_once" s_need_once f fd) (T : Txt K mg C) (G_has_twice : Cal P w K mg base "has_twice" 4 ["view"] (spTwice C)) : FnOk P w K mg base CX0 5 f fd ["to"] (spTwice C) := by
  refine F.ok sc_need_once (fun vs H Q E h => ?_) (fun cdv A outer s H vs Q E hr h => ?_)
  · obtain ⟨p, r, f, axes, rfl, _⟩ := h
    rfl
  · obtain ⟨p, r, f, axes, rfl, hV, ho, q⟩ := h
    refine ⟨_, (pss_cons (ps_set (i := 1) sc_need_once.nd rfl (Or.inl rfl) (pe_cal G_has_twice hr (by rfl) (pa_cons (pv 0) pa_nil)))
      (pss_one (ps_if (pt_cmp (pc_notN (pv 1)) rfl) pss_never pss_nil))), ?_⟩
    refine ⟨_, rfl, p, r, f, axes, rfl, hV, ho, fun H1 s1 => ?_⟩
    exact ⟨_, rfl, false, rfl, iteF (q H1 s1)⟩
/-! pairs_between, bound_pairs -/
abbrev cl (f : Int) (axes : List (Nat × Int)) (p : Pl) : Int := f + dot p (axes.map (·.2))
def spPairs (C : Addr) : Sp := fun vs H Q _ => ∃ (p p2 : Addr) (r f f2 : Int) (axes axes2 : List (Nat × Int)), vs = [.ref p, .ref p2] ∧ VwA C H p r f axes ∧ VwA C H p2 r f2 axes2 ∧ axes2.map (·.1) = axes.map (·.1) ∧ Once f axes ∧
  ∀ (H' : Hp) (l : Addr) (prs : List (Addr × PP)), Same H H' → H' l = some (.lst (refL prs)) → AllA PrA H' prs → IsB (axes.map (·.1)) (cl f axes) (cl f2 axes2) (prs.map (·.2)) → prs.length ≤ 216 → Q (.ref l) H'
theorem ok_pairs_between {f : Addr} {fd : FuncData} (F : Fun K "pairs_between" "pairs_between" s_pairs_between f fd) (T : Txt K mg C) (G_places : Cal P w K mg base "places" 2 ["sizes"] (spPlaces K)) (M_v_sizes : CalM P w K mg base C "sizes" 1 ["self"] (spSizes C))
    (M_v_cell : CalM P w K mg base C "cell" 4 ["self", "place"] (spCell C)) : FnOk P w K mg base CX0 5 f fd ["to", "source"] (spPairs C) := by
  refine F.ok sc_pairs_between (fun vs H Q E h => ?_) (fun cdv A outer s H vs Q E hr h => ?_)
  · obtain ⟨p, p2, r, f, f2, axes, axes2, rfl, _⟩ := h
    rfl
  · obtain ⟨p, p2, r, f, f2, axes, axes2, rfl, hV, hV2, hsz, ho, q⟩ := h
    obtain ⟨⟨dx, l, xs, hp, _⟩, hz⟩ := id hV
    obtain ⟨⟨dx2, l2, xs2, hp2, _⟩, _⟩ := id hV2
    have hpr := hz.prod
    have isP : ∀ {ps : List (Addr × Pl)}, ps.map (·.2) = placesR (axes.map (·.1)) → ∀ {a : Addr} {x : Pl}, (a, x) ∈ ps → IsPl (axes.map (·.1)) x := fun {ps} e {a x} hm => mem_placesR.mp (by rw [← e]; exact List.mem_map.mpr ⟨_, hm, rfl⟩)
    have lenP : ∀ {ps : List (Addr × Pl)}, ps.map (·.2) = placesR (axes.map (·.1)) → ps.length ≤ 216 := fun {ps} e => by
      have := congrArg List.length e
      rw [List.length_map, len_placesR] at this
      omega
    refine ⟨_, (pss_cons (ps_set (i := 2) sc_pairs_between.nd rfl (Or.inl rfl) pe_dnewK)
      (pss_cons (ps_for PassesOwn.never rfl (k_list K (pe_cal G_places hr (by rfl) (pa_cons (pe_m0 M_v_sizes (pv 0) hr) pa_nil))) (pg_name (i := 3) sc_pairs_between.nd rfl (Or.inl rfl)) (pss_one (ps_dput (hu_of hr) (pv 2) (pe_m1 M_v_cell (pv 0) hr (pa_cons (pv 3) pa_nil)) (pv 3) rfl)))
      (pss_cons (ps_set (i := 4) sc_pairs_between.nd rfl (Or.inl rfl) (pe_lst pa_nil))
      (pss_cons (ps_for PassesOwn.never rfl (k_list K (pe_cal G_places hr (by rfl) (pa_cons (pe_m0 M_v_sizes (pv 0) hr) pa_nil))) (pg_name (i := 3) sc_pairs_between.nd rfl (Or.inl rfl)) (pss_cons (ps_set (i := 5) sc_pairs_between.nd rfl (Or.inl rfl) (pe_m1 M_v_cell (pv 1) hr (pa_cons (pv 3) pa_nil)))
      (pss_cons (ps_set (i := 6) sc_pairs_between.nd rfl (Or.inl rfl) (pe_dget1 (hu_of hr) (pv 2) (pv 5) ⟨by rfl, by rfl, by rfl, by rfl⟩))
      (pss_one (ps_if (PW.pt (pw_and (pt_cmp (pc_notN (pv 6)) rfl) (pw_and (pt_cmpR (op_neD hr.units) (pv 6) (pv 3) (nomark _)) (pw_and1 (pt_cmpR op_ne (pe_m1 M_v_cell (pv 1) hr (pa_cons (pv 6) pa_nil)) (pv 5) (nomark _)))))) (pss_one (ps_expr (pe_bm PySem.F.plainAttrs_list PySem.F.slot_list_append PySem.F.type_list_append mt_append (pv 4) (pa_cons (pe_tup (pa_cons (pv 6) (pa_cons (pv 3) pa_nil))) pa_nil)))) pss_nil)))))
      (pss_one (ps_ret (pv 4))))))), ?_⟩
    intro d nd0
    have sd : Same H (upd H d (.dK [])) := same_upd nd0
    refine ⟨_, rfl, p, dx, _, rfl, sd _ _ hp, vm_sizes _ _ _, p, r, f, axes, rfl, hV.same sd, fun H1 a1 s1 e1 => ?_⟩
    refine ⟨a1, axes.map (·.1), rfl, SqL.of e1, hz, fun H2 l1 ps s2 _ el hps hPs => ?_⟩
    have s02 : Same H H2 := (sd.trans s1).trans s2
    refine ⟨l1, rfl, ⟨_, SqL.of el⟩, for_list (K := K) (a := l1) (xs := refL ps) (fun i σ H3 => ∃ (v3 : Option V) (kvs : List (Key × V)), σ = [some (.ref p), some (.ref p2), some (.ref d), v3, none, none, none] ∧ Same H H3 ∧ H3 l1 = some (.lst (refL ps)) ∧ AllA PlA H3 ps ∧ H3 d = some (.dK kvs) ∧ kvs.length ≤ i ∧
        (∀ (x : Int) (v : V), valV kvs (Sum.inl x : Key) = some v → ∃ a u, (a, u) ∈ ps ∧ cl f axes u = x ∧ v = .ref a) ∧ ∀ a u, (a, u) ∈ ps.take i → ∃ v, valV kvs (Sum.inl (cl f axes u) : Key) = some v)
      ⟨none, [], rfl, s02, el, hPs, s2 _ _ (s1 _ _ upd_same), Nat.le_refl _, (fun x v h => by cases h), fun a u h => by simp at h⟩ (fun i σ H3 _ ⟨_, _, _, _, e3, _⟩ => SqL.of e3) ?_ ?_⟩
    · rintro i y σ H3 hi ⟨v3, kvs, rfl, s3, e3, hP3, ed, hk, k1, k2⟩
      obtain ⟨a, u, ea, rfl, _⟩ := refL_get hi
      have hm := List.mem_of_getElem? ea
      have hu := isP hps hm
      have hau : PlA H3 a u := hP3 _ hm
      refine ⟨_, rfl, _, rfl, _, rfl, p, dx, _, rfl, s3 _ _ hp, vm_cell _ _ _, _, rfl, p, a, r, f, axes, u, rfl, hV.same s3, hau, hu, fun H4 s4 => ?_⟩
      have ed4 := s4 _ _ ed
      have hi' : i < ps.length := by rw [← len_refL]; exact (List.getElem?_eq_some_iff.mp hi).1
      have hll := lenP hps
      refine ⟨d, _, rfl, DPut.k (k := Sum.inl (cl f axes u)) ed4 (small (by omega)), ?_⟩
      have b4 : But d H4 (upd H4 d (.dK (putK kvs (Sum.inl (cl f axes u) : Key) (.ref a)))) := But.upd _ _ _
      refine ⟨_, _, rfl, Same.butNew (s3.trans s4) b4 nd0, b4 _ _ (s4 _ _ e3) (ne_of e3 ed (by intro z; cases z)), (hP3.imp fun a x k => plA_same _ _ _ _ s4 k).imp fun a x k => b4.pl ed4 (fun z => z) k, upd_same,
        Nat.le_trans (length_putK _ _ _) (Nat.succ_le_succ hk), fun x v hv => ?_, fun b x hb => ?_⟩
      · rw [valV_put] at hv
        by_cases e : (Sum.inl x : Key) = Sum.inl (cl f axes u)
        · rw [if_pos e] at hv
          exact ⟨a, u, hm, by injection e with e; exact e.symm, (Option.some.inj hv).symm⟩
        · rw [if_neg e] at hv
          exact k1 x v hv
      · rw [valV_put]
        by_cases e : (Sum.inl (cl f axes x) : Key) = Sum.inl (cl f axes u)
        · exact ⟨_, if_pos e⟩
        · rw [if_neg e]
          rw [take_snoc ea] at hb
          rcases List.mem_append.mp hb with hb | hb
          · exact k2 b x hb
          · have e2 : (b, x) = (a, u) := List.mem_singleton.mp hb
            injection e2 with _ e2
            exact absurd (by rw [e2]) e
    · rintro σ H3 ⟨v3, kvs, rfl, s3, e3, hP3, ed, hk, k1, k2⟩
      rw [len_refL, List.take_length] at k2
      -- found = []
      refine ⟨Nat.zero_le _, fun g ng => ?_⟩
      have sg : Same H3 (upd H3 g (.lst [])) := same_upd ng
      have s3g : Same H (upd H3 g (.lst [])) := s3.trans sg
      refine ⟨_, rfl, p, dx, _, rfl, s3g _ _ hp, vm_sizes _ _ _, p, r, f, axes, rfl, hV.same s3g, fun H4 a4 s4 e4 => ?_⟩
      refine ⟨a4, axes.map (·.1), rfl, SqL.of e4, hz, fun H5 l5 qs s5 nl5 el5 hqs hQs => ?_⟩
      have s35 : Same H3 H5 := (sg.trans s4).trans s5
      have eg5 : H5 g = some (.lst []) := s5 _ _ (s4 _ _ upd_same)
      have hll := lenP hqs
      refine ⟨l5, rfl, ⟨_, SqL.of el5⟩, for_list (K := K) (a := l5) (xs := refL qs) (fun i σ H6 => ∃ (v3 v5 v6 : Option V) (prs : List (Addr × PP)), σ = [some (.ref p), some (.ref p2), some (.ref d), v3, some (.ref g), v5, v6] ∧ Same H3 H6 ∧ H6 l5 = some (.lst (refL qs)) ∧ AllA PlA H6 qs ∧ H6 g = some (.lst (refL prs)) ∧ AllA PrA H6 prs ∧ prs.length ≤ i ∧
          ∀ x y, (x, y) ∈ prs.map (·.2) ↔ IsPl (axes.map (·.1)) x ∧ y ∈ (placesR (axes.map (·.1))).take i ∧ x ≠ y ∧ cl f axes x = cl f2 axes2 y ∧ cl f2 axes2 x ≠ cl f2 axes2 y)
        ⟨v3, none, none, [], rfl, s35, el5, hQs, eg5, AllA.nil, Nat.le_refl _, fun x y => by simp⟩ (fun i σ H6 _ ⟨_, _, _, _, _, _, e6, _⟩ => SqL.of e6) ?_ ?_⟩
      · rintro i y σ H6 hi ⟨v3, v5, v6, prs, rfl, s6, e6, hQ6, eg6, hPr, hpl, hmem⟩
        obtain ⟨b, u, eb, rfl, eu⟩ := refL_get hi
        have hm := List.mem_of_getElem? eb
        have hu := isP hqs hm
        have hu2 : IsPl (axes2.map (·.1)) u := by rw [hsz]; exact hu
        have hbu : PlA H6 b u := hQ6 _ hm
        have s06 : Same H H6 := s3.trans s6
        have hi' : i < qs.length := by rw [← len_refL]; exact (List.getElem?_eq_some_iff.mp hi).1
        have etake : (placesR (axes.map (·.1))).take (i + 1) = (placesR (axes.map (·.1))).take i ++ [u] := take_snoc (by rw [← hqs]; exact eu)
        refine ⟨_, rfl, p2, dx2, _, rfl, s06 _ _ hp2, vm_cell _ _ _, _, rfl, p2, b, r, f2, axes2, u, rfl, hV2.same s06, hbu, hu2, fun H7 s7 => ?_⟩
        have s67 := s6.trans s7
        have ed7 : H7 d = some (.dK kvs) := s67 _ _ ed
        refine ⟨_, rfl, d, rfl, .inl ⟨kvs, Rd.of ed7⟩, _, rfl, _, DGet.k (k := Sum.inl (cl f2 axes2 u)) ed7, ?_⟩
        -- nothing is appended
        have skip : ∀ (H8 : Hp) (v : V), Same H7 H8 → (∀ x, IsPl (axes.map (·.1)) x → x ≠ u → cl f axes x = cl f2 axes2 u → cl f2 axes2 x ≠ cl f2 axes2 u → False) → ∃ (v3 v5 v6 : Option V) (prs : List (Addr × PP)), ([some (.ref p), some (.ref p2), some (.ref d), some (.ref b), some (.ref g), some (.int (cl f2 axes2 u)), some v] : L2.St) = [some (.ref p), some (.ref p2), some (.ref d), v3, some (.ref g), v5, v6] ∧ Same H3 H8 ∧ H8 l5 = some (.lst (refL qs)) ∧ AllA PlA H8 qs ∧ H8 g = some (.lst (refL prs)) ∧ AllA PrA H8 prs ∧ prs.length ≤ i + 1 ∧
            ∀ x y, (x, y) ∈ prs.map (·.2) ↔ IsPl (axes.map (·.1)) x ∧ y ∈ (placesR (axes.map (·.1))).take (i + 1) ∧ x ≠ y ∧ cl f axes x = cl f2 axes2 y ∧ cl f2 axes2 x ≠ cl f2 axes2 y := fun H8 v s8 hno => by
          have s78 := s7.trans s8
          refine ⟨_, _, _, prs, rfl, s6.trans s78, s78 _ _ e6, hQ6.imp fun a x k => plA_same _ _ _ _ s78 k, s78 _ _ eg6, hPr.imp fun a x k => prA_same _ _ _ _ s78 k, by omega, fun x y => ?_⟩
          rw [hmem, etake]
          constructor
          · rintro ⟨a1, a2, a3, a4, a5⟩
            exact ⟨a1, List.mem_append_left _ a2, a3, a4, a5⟩
          · rintro ⟨a1, a2, a3, a4, a5⟩
            rcases List.mem_append.mp a2 with a2 | a2
            · exact ⟨a1, a2, a3, a4, a5⟩
            · have ey := List.mem_singleton.mp a2
              subst ey
              exact (hno x a1 a3 a4 a5).elim
        cases hw : valV kvs (Sum.inl (cl f2 axes2 u) : Key) with
        | none =>
          refine ⟨_, rfl, false, rfl, iteF (iteF (skip H7 _ (Same.refl _) fun x hx _ e _ => ?_))⟩
          have hxm : x ∈ ps.map (·.2) := by rw [hps]; exact mem_placesR.mpr hx
          obtain ⟨⟨a, x'⟩, hax, rfl⟩ := List.mem_map.mp hxm
          obtain ⟨v, hv⟩ := k2 a x' hax
          rw [e, hw] at hv
          cases hv
        | some v =>
          obtain ⟨a, x, hax, ex, rfl⟩ := k1 _ _ hw
          have hx := isP hps hax
          have hx2 : IsPl (axes2.map (·.1)) x := by rw [hsz]; exact hx
          have hax7 : PlA H7 a x := (hP3 _ hax).same s67
          have hbu7 : PlA H7 b u := hbu.same s7
          have only : ∀ y, IsPl (axes.map (·.1)) y → cl f axes y = cl f2 axes2 u → y = x := fun y hy e => ho y x hy hx (e.trans ex.symm)
          refine ⟨_, rfl, true, rfl, iteT ?_⟩
          refine ⟨_, rfl, _, rfl, _, _, dp_pl hax7, dp_pl hbu7, (gd_pl _).shaped (by decide), (gd_pl _).shaped (by decide), _, rfl, ?_⟩
          rw [eqv_pl]
          by_cases hxu : x = u
          · refine iteNS hxu (iteF (skip H7 _ (Same.refl _) fun y hy hne e _ => hne ((only y hy e).trans hxu)))
          · rw [decide_eq_false hxu]
            refine iteT ?_
            have s07 : Same H H7 := s06.trans s7
            refine ⟨_, rfl, p2, dx2, _, rfl, s07 _ _ hp2, vm_cell _ _ _, _, rfl, p2, a, r, f2, axes2, x, rfl, hV2.same s07, hax7, hx2, fun H8 s8 => ?_⟩
            refine ⟨_, rfl, rfl, _, rfl, ?_⟩
            by_cases hc : cl f2 axes2 x = cl f2 axes2 u
            · rw [decide_eq_true (show V.int (f2 + dot x (axes2.map (·.2))) = V.int (f2 + dot u (axes2.map (·.2))) by exact congrArg V.int hc)]
              exact iteF (skip H8 _ s8 fun y hy _ e hne => hne (by rw [only y hy e]; exact hc))
            · rw [decide_eq_false (show ¬ (V.int (f2 + dot x (axes2.map (·.2))) = V.int (f2 + dot u (axes2.map (·.2)))) from fun e => hc (by injection e))]
              refine iteT ?_
              have s78 := s7.trans s8
              have eg8 := s78 _ _ eg6
              refine ⟨_, rfl, .inl ⟨rfl, _, SqL.of eg8⟩, _, rfl, _, rfl, by show 2 ≤ sizeLine; decide, fun t nt => ?_⟩
              have st : Same H8 (upd H8 t (.tup [.ref a, .ref b])) := same_upd nt
              have s8t := s78.trans st
              have eg9 := st _ _ eg8
              have b9 : But g (upd H8 t (.tup [.ref a, .ref b])) (upd (upd H8 t (.tup [.ref a, .ref b])) g (.lst (refL prs ++ [.ref t]))) := But.upd _ _ _
              refine ⟨g, _, _, rfl, rfl, eg9, by rw [len_refL]; exact small (by omega), ?_⟩
              have hnew : PrA (upd H8 t (.tup [.ref a, .ref b])) t (x, u) := ⟨a, b, upd_same, (hax7.same s8).same st, (hbu7.same s8).same st⟩
              refine ⟨_, _, _, prs ++ [(t, (x, u))], rfl, Same.butNew (s6.trans s8t) b9 ng, b9 _ _ (s8t _ _ e6) (Ne.symm (ne_of_none (s4 _ _ upd_same) nl5)), (hQ6.imp fun a x k => plA_same _ _ _ _ s8t k).imp fun a x k => b9.pl eg9 (fun z => z) k, by rw [upd_same, refL_snoc],
                ((hPr.imp fun a x k => prA_same _ _ _ _ s8t k).snoc hnew).imp fun a x k => b9.pr eg9 (fun z => z) k, by rw [List.length_append]; show prs.length + 1 ≤ i + 1; omega, fun y z => ?_⟩
              rw [List.map_append, List.mem_append, hmem, etake]
              constructor
              · rintro (⟨a1, a2, a3, a4, a5⟩ | h1)
                · exact ⟨a1, List.mem_append_left _ a2, a3, a4, a5⟩
                · have e1 : (y, z) = (x, u) := List.mem_singleton.mp h1
                  injection e1 with e1 e2
                  subst e1 e2
                  exact ⟨hx, List.mem_append_right _ (List.mem_singleton_self _), hxu, ex, hc⟩
              · rintro ⟨a1, a2, a3, a4, a5⟩
                rcases List.mem_append.mp a2 with a2 | a2
                · exact .inl ⟨a1, a2, a3, a4, a5⟩
                · have ez := List.mem_singleton.mp a2
                  subst ez
                  have ey := only y a1 a4
                  subst ey
                  exact .inr (List.mem_singleton_self _)
      · rintro σ H6 ⟨v3, v5, v6, prs, rfl, s6, e6, hQ6, eg6, hPr, hpl, hmem⟩
        rw [len_refL] at hpl hmem
        have hql : qs.length = (placesR (axes.map (·.1))).length := by rw [← hqs, List.length_map]
        rw [hql, List.take_length] at hmem
        refine ⟨_, rfl, q H6 g prs (s3.trans s6) eg6 hPr ⟨fun x y => ?_⟩ (by omega)⟩
        rw [hmem, mem_placesR]
end
end PH

/-! The walks: gaps, ways, bars. -/
namespace PH
open PySem PySem.Spec PyProof.Rows L2
/-- pairs of places of n axes each -/
def Dim (n : Nat) (l : List PP) : Prop := ∀ pr ∈ l, pr.1.length = n ∧ pr.2.length = n
theorem first_at {α : Type} [DecidableEq α] {x : α} : ∀ {l : List α}, x ∈ l → ∃ j, l[j]? = some x ∧ ∀ (m : Nat) (y : α), m < j → l[m]? = some y → y ≠ x
  | [], h => by simp at h
  | z :: l, h => by
    by_cases e : z = x
    · exact ⟨0, by rw [e]; rfl, fun m y hm => by omega⟩
    · obtain ⟨j, h1, h2⟩ := first_at (l := l) (by
        rcases List.mem_cons.mp h with h | h
        · exact absurd h.symm e
        · exact h)
      refine ⟨j + 1, h1, fun m y hm hy => ?_⟩
      cases m with
      | zero =>
        have : z = y := Option.some.inj hy
        rw [← this]; exact e
      | succ m => exact h2 m y (by omega) hy
theorem flat_ints (l : List Int) : (intL l).all flatV = true := by
  rw [List.all_eq_true]
  intro v hv
  obtain ⟨n, _, rfl⟩ := List.mem_map.mp hv
  rfl
theorem ix_of_first {l : List Int} {j : Nat} {x : Int} (h : ∀ (m : Nat) (y : Int), m < j → l[m]? = some y → y ≠ x) : ∀ (m : Nat) (z : V), m < j → (intL l)[m]? = some z → eqV z (.int x) = false := fun m z hm hz => by
  obtain ⟨n, hn, rfl⟩ := intL_get hz
  show (n == x) = false
  rw [beq_eq_false_iff_ne]
  exact h m n hm hn
theorem any_pr (S : List PP) (x : PP) : (S.map dPr).any (fun z => PyData.eqv z (dPr x)) = decide (x ∈ S) := by
  rw [Bool.eq_iff_iff, List.any_eq_true, decide_eq_true_eq]
  constructor
  · rintro ⟨d, hd, e⟩
    obtain ⟨y, hy, rfl⟩ := List.mem_map.mp hd
    rw [eqv_pr, decide_eq_true_eq] at e
    rw [← e]; exact hy
  · intro h
    exact ⟨dPr x, List.mem_map.mpr ⟨x, h, rfl⟩, by rw [eqv_pr, decide_eq_true_eq]⟩
section
variable {P : Program} {w : World} {K : PySem.W.Frag} {mg : Str → Option Value} {base : Heap} {C : Addr}
theorem ok_bound_pairs {f : Addr} {fd : FuncData} (F : Fun K "bound_pairs" "bound_pairs" s_bound_pairs f fd) (T : Txt K mg C) (G_need_alike : Cal P w K mg base "need_alike" 2 ["to", "source"] (spAlike C)) (G_need_few : Cal P w K mg base "need_few" 2 ["sizes"] (spFew K))
    (G_need_once : Cal P w K mg base "need_once" 5 ["to"] (spTwice C)) (G_pairs_between : Cal P w K mg base "pairs_between" 5 ["to", "source"] (spPairs C)) (M_v_sizes : CalM P w K mg base C "sizes" 1 ["self"] (spSizes C)) : FnOk P w K mg base CX0 6 f fd ["to", "source"] (spPairs C) := by
  refine F.ok sc_bound_pairs (fun vs H Q E h => ?_) (fun cdv A outer s H vs Q E hr h => ?_)
  · obtain ⟨p, p2, r, f, f2, axes, axes2, rfl, _⟩ := h
    rfl
  · obtain ⟨p, p2, r, f, f2, axes, axes2, rfl, hV, hV2, hsz, ho, q⟩ := h
    obtain ⟨⟨dx, l, xs, hp, _⟩, hz⟩ := id hV
    refine ⟨_, (pss_cons (ps_expr (pe_cal G_need_alike hr (by rfl) (pa_cons (pv 0) (pa_cons (pv 1) pa_nil))))
      (pss_cons (ps_expr (pe_cal G_need_few hr (by rfl) (pa_cons (pe_m0 M_v_sizes (pv 0) hr) pa_nil)))
      (pss_cons (ps_expr (pe_cal G_need_once hr (by rfl) (pa_cons (pv 0) pa_nil)))
      (pss_one (ps_ret (pe_cal G_pairs_between hr (by rfl) (pa_cons (pv 0) (pa_cons (pv 1) pa_nil)))))))), ?_⟩
    refine ⟨_, rfl, _, rfl, p, p2, r, f, f2, axes, axes2, rfl, hV, hV2, hsz, fun H1 s1 => ?_⟩
    refine ⟨_, rfl, p, dx, _, rfl, s1 _ _ hp, vm_sizes _ _ _, p, r, f, axes, rfl, hV.same s1, fun H2 a2 s2 e2 => ?_⟩
    refine ⟨a2, axes.map (·.1), rfl, SqL.of e2, hz, ?_⟩
    have s02 := s1.trans s2
    refine ⟨_, rfl, p, r, f, axes, rfl, hV.same s02, ho, fun H3 s3 => ?_⟩
    have s03 := s02.trans s3
    refine ⟨_, rfl, _, rfl, p, p2, r, f, f2, axes, axes2, rfl, hV.same s03, hV2.same s03, hsz, ho, fun H4 l4 prs s4 => q H4 l4 prs (s03.trans s4)⟩
/-! gaps -/
def spGaps : Sp := fun vs H Q _ => ∃ (l : Addr) (n ax : Nat) (prs : List (Addr × PP)), vs = [.ref l, .int ax] ∧ H l = some (.lst (refL prs)) ∧ AllA PrA H prs ∧ Dim n (prs.map (·.2)) ∧ ax < n ∧ prs.length ≤ 1000 ∧
  ∀ (H' : Hp) (g : Addr), Same H H' → H' g = some (.lst (intL ((prs.map (·.2)).map (gap ax)))) → Q (.ref g) H'
theorem ok_gaps {f : Addr} {fd : FuncData} (F : Fun K "gaps" "gaps" s_gaps f fd) (T : Txt K mg C) : FnOk P w K mg base CX0 1 f fd ["some", "axis"] spGaps := by
  refine F.ok sc_gaps (fun vs H Q E h => ?_) (fun cdv A outer s H vs Q E hr h => ?_)
  · obtain ⟨l, n, ax, prs, rfl, _⟩ := h
    rfl
  · obtain ⟨l, n, ax, prs, rfl, hl, hA, hd, hax, hn, q⟩ := h
    refine ⟨_, (pss_one (ps_ret (pe_lc (own := [("pair", 2)]) (g := gName 2) (tt := tYes) (by rfl) sc_gaps.nd (k_list K (pv 0))  (blkOk_by (own := [("pair", 2)]) (N := N_gaps) (sc := defScope s_gaps) (by decide +kernel)) (fun _ _ _ _ _ => (pg_name (i := 2) sc_gaps.nd rfl (Or.inl rfl))) (fun _ _ _ _ _ => pts_nil) (fun _ _ _ _ _ => (pe_op op_sub (pe_ix (k_ixt K) (pe_ix (k_ixt K) (pv 2) pe_int (fun _ _ => rfl)) (pv 1) (fun _ _ => rfl)) (pe_ix (k_ixt K) (pe_ix (k_ixt K) (pv 2) pe_int (fun _ _ => rfl)) (pv 1) (fun _ _ => rfl))))))), ?_⟩
    refine ⟨_, rfl, l, rfl, ⟨_, SqL.of hl⟩, fun D nD => ?_⟩
    refine lc_ints (walk_list (K := K) (a := l) (xs := refL prs)) ((prs.map (·.2)).map (gap ax)) (by rw [List.length_map, List.length_map, len_refL]) (by rw [len_refL]; omega) nD
      (fun H3 s3 => SqL.of (s3 _ _ hl)) (fun i H3 x H4 _ _ y => same_at i H3 x H4 y) (fun i x z H3 H4 R hi hz' s3 y s4 hR => ?_) (fun H3 s3 e3 => q H3 D s3 e3)
    obtain ⟨rfl, hx⟩ := y
    obtain ⟨a, pr, e1, rfl, e3⟩ := refL_get hx
    obtain ⟨b, c, e, eb, ec⟩ := (hA _ (List.mem_of_getElem? e1)).same s3
    have hlen := hd pr (List.mem_of_getElem? e3)
    rw [List.getElem?_map, e3] at hz'
    have ez : gap ax pr = z := Option.some.inj hz'
    subst ez
    have g1 : (pr.1.map nI)[ax]? = some (nI (pr.1.getD ax 0)) := by
      rw [List.getElem?_map, List.getD_eq_getElem?_getD, List.getElem?_eq_getElem (by omega)]
      rfl
    have g2 : (pr.2.map nI)[ax]? = some (nI (pr.2.getD ax 0)) := by
      rw [List.getElem?_map, List.getD_eq_getElem?_getD, List.getElem?_eq_getElem (by omega)]
      rfl
    exact ⟨rfl, _, rfl, a, _, _, _, rfl, rfl, SqT.of e, atI_nat (j := 0) rfl, _, rfl, b, _, _, _, rfl, rfl, SqT.of eb, atI_nat g1, _, rfl, a, _, _, _, rfl, rfl, SqT.of e, atI_nat (j := 1) rfl, _, rfl, c, _, _, _, rfl, rfl, SqT.of ec, atI_nat g2, _, _, rfl, rfl, hR _ (Same.refl _)⟩
/-! way_along -/
def spWay : Sp := fun vs H Q _ => ∃ (l : Addr) (n ax : Nat) (prs : List (Addr × PP)), vs = [.ref l, .int ax] ∧ H l = some (.lst (refL prs)) ∧ AllA PrA H prs ∧ Dim n (prs.map (·.2)) ∧ ax < n ∧ prs.length ≤ 1000 ∧ prs ≠ [] ∧
  ∀ (H' : Hp), Same H H' → Q (.int (wayF (prs.map (·.2)) ax)) H'
theorem ok_way_along {f : Addr} {fd : FuncData} (F : Fun K "way_along" "way_along" s_way_along f fd) (T : Txt K mg C) (G_gaps : Cal P w K mg base "gaps" 1 ["some", "axis"] spGaps) : FnOk P w K mg base CX0 2 f fd ["some", "axis"] spWay := by
  refine F.ok sc_way_along (fun vs H Q E h => ?_) (fun cdv A outer s H vs Q E hr h => ?_)
  · obtain ⟨l, n, ax, prs, rfl, _⟩ := h
    rfl
  · obtain ⟨l, n, ax, prs, rfl, hl, hA, hd, hax, hn, hne, q⟩ := h
    refine ⟨_, (pss_cons (ps_set (i := 2) sc_way_along.nd rfl (Or.inl rfl) (pe_cal G_gaps hr (by rfl) (pa_cons (pv 0) (pa_cons (pv 1) pa_nil))))
      (pss_cons (ps_if (PW.pt (pw_and (pt_cmpR op_ge (pe_callB (cr_min rfl) (by rfl) T.min b_min (pa_cons (pv 2) pa_nil)) pe_int (nomark _)) (pw_and1 (pt_cmpR op_gt (pe_callB (cr_max rfl) (by rfl) T.max b_max (pa_cons (pv 2) pa_nil)) pe_int (nomark _))))) (pss_one (ps_ret pe_int)) pss_nil)
      (pss_cons (ps_if (PW.pt (pw_and (pt_cmpR op_le (pe_callB (cr_max rfl) (by rfl) T.max b_max (pa_cons (pv 2) pa_nil)) pe_int (nomark _)) (pw_and1 (pt_cmpR op_lt (pe_callB (cr_min rfl) (by rfl) T.min b_min (pa_cons (pv 2) pa_nil)) pe_int (nomark _))))) (pss_one (ps_ret (pe_un un_neg pe_int))) pss_nil)
      (pss_one (ps_ret pe_int))))), ?_⟩
    refine ⟨_, rfl, _, rfl, l, n, ax, prs, rfl, hl, hA, hd, hax, hn, fun H1 g s1 eg => ?_⟩
    have hg : SqL K H1 g (((prs.map (·.2)).map (gap ax)).map V.int) := SqL.of eg
    have h0 : 0 < ((prs.map (·.2)).map (gap ax)).length := by
      rw [List.length_map, List.length_map]
      exact List.length_pos_iff.mpr hne
    -- the least and the greatest gap
    have lo : ∀ m, m ∈ (prs.map (·.2)).map (gap ax) → (∀ y, y ∈ (prs.map (·.2)).map (gap ax) → m ≤ y) → (∃ pr ∈ prs.map (·.2), gap ax pr = m) ∧ ∀ pr ∈ prs.map (·.2), m ≤ gap ax pr := fun m h1 h2 =>
      ⟨by obtain ⟨pr, hp, e⟩ := List.mem_map.mp h1; exact ⟨pr, hp, e⟩, fun pr hp => h2 _ (List.mem_map.mpr ⟨pr, hp, rfl⟩)⟩
    have hi : ∀ m, m ∈ (prs.map (·.2)).map (gap ax) → (∀ y, y ∈ (prs.map (·.2)).map (gap ax) → y ≤ m) → (∃ pr ∈ prs.map (·.2), gap ax pr = m) ∧ ∀ pr ∈ prs.map (·.2), gap ax pr ≤ m := fun m h1 h2 =>
      ⟨by obtain ⟨pr, hp, e⟩ := List.mem_map.mp h1; exact ⟨pr, hp, e⟩, fun pr hp => h2 _ (List.mem_map.mpr ⟨pr, hp, rfl⟩)⟩
    -- the second test, once it is known that not all are right this way
    have second : ¬ ((∀ pr ∈ prs.map (·.2), 0 ≤ gap ax pr) ∧ ∃ pr ∈ prs.map (·.2), 0 < gap ax pr) → ∀ m M : Int, ((∃ pr ∈ prs.map (·.2), gap ax pr = m) ∧ ∀ pr ∈ prs.map (·.2), m ≤ gap ax pr) → ((∃ pr ∈ prs.map (·.2), gap ax pr = M) ∧ ∀ pr ∈ prs.map (·.2), gap ax pr ≤ M) →
        (M ≤ 0 → m < 0 → wayF (prs.map (·.2)) ax = -1) ∧ ((¬ M ≤ 0 ∨ ¬ m < 0) → wayF (prs.map (·.2)) ax = 0) := fun hn m M hm hM => by
      obtain ⟨⟨p1, q1, e1⟩, m1⟩ := hm
      obtain ⟨⟨p2, q2, e2⟩, m2⟩ := hM
      refine ⟨fun h1 h2 => wayF_neg (fun pr hp => by have := m2 pr hp; omega) ⟨p1, q1, by omega⟩, fun h => wayF_zero ?_⟩
      by_cases hm0 : m < 0
      · have hM0 : 0 < M := by
          rcases h with h | h
          · omega
          · exact absurd hm0 h
        exact .inr ⟨⟨p2, q2, by omega⟩, p1, q1, by omega⟩
      · have hM0 : ¬ 0 < M := fun k => hn ⟨fun pr hp => by have := m1 pr hp; omega, p2, q2, by omega⟩
        exact .inl fun pr hp => by have := m1 pr hp; have := m2 pr hp; omega
    refine ⟨_, rfl, g, _, rfl, hg, h0, fun m hm1 hm2 => ?_⟩
    have km := lo m hm1 hm2
    refine ⟨_, _, rfl, rfl, _, rfl, ?_⟩
    -- if max(found) <= 0 and min(found) < 0
    have rest : ¬ ((∀ pr ∈ prs.map (·.2), 0 ≤ gap ax pr) ∧ ∃ pr ∈ prs.map (·.2), 0 < gap ax pr) → ∃ v, ([some (.ref l), some (.int ax), some (.ref g)] : L2.St)[2]? = some (some v) ∧ ∃ (a : Addr) (ns : List Int), [v] = [V.ref a] ∧ SqL K H1 a (ns.map V.int) ∧ 0 < ns.length ∧ ∀ M, M ∈ ns → (∀ y, y ∈ ns → y ≤ M) →
        ∃ i j, V.int M = V.int i ∧ V.int 0 = V.int j ∧ ∃ k, V.bl (decide (i ≤ j)) = V.bl k ∧ if k = true then (∃ v, ([some (.ref l), some (.int ax), some (.ref g)] : L2.St)[2]? = some (some v) ∧ ∃ (a : Addr) (ns : List Int), [v] = [V.ref a] ∧ SqL K H1 a (ns.map V.int) ∧ 0 < ns.length ∧ ∀ m, m ∈ ns → (∀ y, y ∈ ns → m ≤ y) →
          ∃ i j, V.int m = V.int i ∧ V.int 0 = V.int j ∧ ∃ k, V.bl (decide (i < j)) = V.bl k ∧ if k = true then (∃ i, V.int 1 = V.int i ∧ Q (.int (-i)) H1) else Q (.int 0) H1) else Q (.int 0) H1 := fun hn => by
      refine ⟨_, rfl, g, _, rfl, hg, h0, fun M hM1 hM2 => ?_⟩
      have kM := hi M hM1 hM2
      refine ⟨_, _, rfl, rfl, _, rfl, ?_⟩
      by_cases hM : M ≤ 0
      · rw [decide_eq_true hM]
        refine iteT ⟨_, rfl, g, _, rfl, hg, h0, fun m hm1 hm2 => ?_⟩
        have km := lo m hm1 hm2
        refine ⟨_, _, rfl, rfl, _, rfl, ?_⟩
        by_cases hm : m < 0
        · rw [decide_eq_true hm]
          refine iteT ⟨_, rfl, ?_⟩
          rw [← (second hn m M km kM).1 hM hm]
          exact q H1 s1
        · rw [decide_eq_false hm]
          refine iteF ?_
          rw [← (second hn m M km kM).2 (.inr hm)]
          exact q H1 s1
      · rw [decide_eq_false hM]
        refine iteF ?_
        rw [← (second hn m M km kM).2 (.inl hM)]
        exact q H1 s1
    by_cases hm : 0 ≤ m
    · rw [decide_eq_true hm]
      refine iteT ⟨_, rfl, g, _, rfl, hg, h0, fun M hM1 hM2 => ?_⟩
      have kM := hi M hM1 hM2
      refine ⟨_, _, rfl, rfl, _, rfl, ?_⟩
      by_cases hM : 0 < M
      · rw [decide_eq_true hM]
        refine iteT ?_
        obtain ⟨⟨p2, q2, e2⟩, m2⟩ := kM
        have e : wayF (prs.map (·.2)) ax = 1 := wayF_pos (fun pr hp => by have := km.2 pr hp; omega) ⟨p2, q2, by omega⟩
        have k := q H1 s1
        rw [e] at k
        exact k
      · rw [decide_eq_false hM]
        refine iteF (rest fun k => ?_)
        obtain ⟨p2, q2, e2⟩ := k.2
        have := kM.2 p2 q2
        omega
    · rw [decide_eq_false hm]
      refine iteF (rest fun k => ?_)
      obtain ⟨⟨p1, q1, e1⟩, m1⟩ := km
      have := k.1 p1 q1
      omega
end
end PH

/-! The walks: barring. -/
namespace PH
open PySem PySem.Spec PyProof.Rows L2
section
variable {P : Program} {w : World} {K : PySem.W.Frag} {mg : Str → Option Value} {base : Heap} {C : Addr}
theorem rngY {i : Nat} {H H' : Hp} {x : V} (y : YFn (fun i => V.int (0 + (i : Int))) i H x H') : H' = H ∧ x = .int i := ⟨y.1, y.2.trans (by show V.int (0 + (i : Int)) = V.int i; rw [Int.zero_add])⟩
theorem ref_ne_int {α : Type} {l : List (Addr × α)} {ns : List Int} (h : 0 < ns.length) : refL l ≠ intL ns := fun e => by
  cases ns with
  | nil => simp at h
  | cons x r =>
    cases l with
    | nil => cases e
    | cons y m =>
      have := List.cons.inj e
      cases this.1
def spBarring : Sp := fun vs H Q _ => ∃ (l : Addr) (n : Nat) (prs : List (Addr × PP)), vs = [.ref l, .int n] ∧ H l = some (.lst (refL prs)) ∧ AllA PrA H prs ∧ Dim n (prs.map (·.2)) ∧ n ≤ 3 ∧ prs.length ≤ 216 ∧ prs ≠ [] ∧ (∀ a, a < n → AllZero (prs.map (·.2)) a ∨ Mixed (prs.map (·.2)) a) ∧
  ∀ (H' : Hp) (D : Addr) (S : List (Addr × PP)), Same H H' → H' D = some (.lst (refL S)) → AllA PrA H' S → BarOk n (prs.map (·.2)) (S.map (·.2)) → S.length ≤ 2 * n → Q (.ref D) H'
theorem ok_barring {f : Addr} {fd : FuncData} (F : Fun K "barring" "barring" s_barring f fd) (T : Txt K mg C) (G_gaps : Cal P w K mg base "gaps" 1 ["some", "axis"] spGaps) : FnOk P w K mg base CX0 2 f fd ["some", "axes"] spBarring := by
  refine F.ok sc_barring (fun vs H Q E h => ?_) (fun cdv A outer s H vs Q E hr h => ?_)
  · obtain ⟨l, n, prs, rfl, _⟩ := h
    rfl
  · obtain ⟨l, n, prs, rfl, hl, hA, hd, hn, hlen, hne, hz, q⟩ := h
    refine ⟨_, (pss_cons (ps_set (i := 2) sc_barring.nd rfl (Or.inl rfl) (pe_lst pa_nil))
      (pss_cons (ps_for PassesOwn.never rfl (pi_range1 rfl T.range (pa_cons (pv 1) pa_nil)) (pg_name (i := 3) sc_barring.nd rfl (Or.inl rfl)) (pss_cons (ps_set (i := 4) sc_barring.nd rfl (Or.inl rfl) (pe_cal G_gaps hr (by rfl) (pa_cons (pv 0) (pa_cons (pv 3) pa_nil))))
      (pss_one (ps_for PassesOwn.never rfl (k_list K (pe_lst (pa_cons (pe_ix (k_ixl K) (pv 0) (pe_bm PySem.F.plainAttrs_list PySem.F.slot_list_index PySem.F.type_list_index mt_index (pv 4) (pa_cons (pe_callB (cr_max rfl) (by rfl) T.max b_max (pa_cons (pv 4) pa_nil)) pa_nil)) (fun _ _ => rfl)) (pa_cons (pe_ix (k_ixl K) (pv 0) (pe_bm PySem.F.plainAttrs_list PySem.F.slot_list_index PySem.F.type_list_index mt_index (pv 4) (pa_cons (pe_callB (cr_min rfl) (by rfl) T.min b_min (pa_cons (pv 4) pa_nil)) pa_nil)) (fun _ _ => rfl)) pa_nil)))) (pg_name (i := 5) sc_barring.nd rfl (Or.inl rfl)) (pss_one (ps_if (PW.pt (pw_and (pt_cmpR op_gt (pe_callB (cr_max rfl) (by rfl) T.max b_max (pa_cons (pv 4) pa_nil)) pe_int (nomark _)) (pw_and1 (pt_cmpR (op_notInD (PH.Room.units1 hr)) (pv 5) (pv 2) rfl)))) (pss_one (ps_expr (pe_bm PySem.F.plainAttrs_list PySem.F.slot_list_append PySem.F.type_list_append mt_append (pv 2) (pa_cons (pv 5) pa_nil)))) pss_nil))))))
      (pss_one (ps_ret (pv 2))))), ?_⟩
    refine ⟨Nat.zero_le _, fun D nD => ?_⟩
    refine ⟨_, rfl, n, rfl, by omega, by omega, for_it (walk_range (lo := 0) (n := n)) (fun i σ H3 => ∃ (v3 v4 v5 : Option V) (S : List (Addr × PP)), σ = [some (.ref l), some (.int n), some (.ref D), v3, v4, v5] ∧ Same H H3 ∧ H3 D = some (.lst (refL S)) ∧ AllA PrA H3 S ∧ (∀ pr : PP, pr ∈ S.map (·.2) → pr ∈ prs.map (·.2)) ∧
        (∀ a, a < i → AllZero (prs.map (·.2)) a ∨ Mixed (S.map (·.2)) a) ∧ S.length ≤ 2 * i)
      ⟨none, none, none, [], rfl, same_upd nD, upd_same, AllA.nil, fun _ h => by simp at h, fun a h => by omega, Nat.le_refl _⟩ (fun i σ H3 _ _ => trivial) ?_ ?_⟩
    · rintro i y σ H3 H4 hi ⟨v3, v4, v5, S, rfl, s3, eD, hS, hsub, hmix, hSl⟩ hy
      obtain ⟨rfl, rfl⟩ := rngY hy
      have hl3 := s3 _ _ hl
      have hA3 : AllA PrA H4 prs := hA.imp fun a x k => prA_same _ _ _ _ s3 k
      refine ⟨_, rfl, _, rfl, l, n, i, prs, rfl, hl3, hA3, hd, hi, by omega, fun H5 g s5 eg => ?_⟩
      have hg : SqL K H5 g (((prs.map (·.2)).map (gap i)).map V.int) := SqL.of eg
      have h0 : 0 < ((prs.map (·.2)).map (gap i)).length := by
        rw [List.length_map, List.length_map]
        exact List.length_pos_iff.mpr hne
      have hl5 := s5 _ _ hl3
      have eD5 := s5 _ _ eD
      have hA5 : AllA PrA H5 prs := hA3.imp fun a x k => prA_same _ _ _ _ s5 k
      have pick : ∀ {M : Int}, M ∈ (prs.map (·.2)).map (gap i) → ∃ (j : Nat) (a : Addr) (pr : PP), ((prs.map (·.2)).map (gap i))[j]? = some M ∧ (∀ (m : Nat) (y : Int), m < j → ((prs.map (·.2)).map (gap i))[m]? = some y → y ≠ M) ∧ (refL prs)[j]? = some (.ref a) ∧ (a, pr) ∈ prs ∧ gap i pr = M := fun {M} hM => by
        obtain ⟨j, h1, h2⟩ := first_at hM
        have h3 := h1
        rw [List.getElem?_map, List.getElem?_map] at h3
        cases e : prs[j]? with
        | none => rw [e] at h3; cases h3
        | some p =>
          rw [e] at h3
          exact ⟨j, p.1, p.2, h1, h2, by show (prs.map _)[j]? = _; rw [List.getElem?_map, e]; rfl, List.mem_of_getElem? e, Option.some.inj h3⟩
      refine ⟨_, rfl, _, rfl, .inl ⟨rfl, _, hg⟩, _, rfl, g, _, rfl, hg, h0, fun M hM1 hM2 => ?_⟩
      obtain ⟨j1, a1, p1, ej1, hno1, er1, hm1, hg1⟩ := pick hM1
      refine ⟨g, _, _, j1, .int M, rfl, rfl, hg, rfl, flat_ints _, by rw [List.getElem?_map, ej1]; rfl, by show (M == M) = true; exact beq_self_eq_true M, ix_of_first hno1, ?_⟩
      refine ⟨l, _, _, _, rfl, rfl, SqL.of hl5, atI_nat er1, ?_⟩
      refine ⟨_, rfl, _, rfl, .inl ⟨rfl, _, hg⟩, _, rfl, g, _, rfl, hg, h0, fun m hm1' hm2' => ?_⟩
      obtain ⟨j2, a2, p2, ej2, hno2, er2, hm2, hg2⟩ := pick hm1'
      refine ⟨g, _, _, j2, .int m, rfl, rfl, hg, rfl, flat_ints _, by rw [List.getElem?_map, ej2]; rfl, by show (m == m) = true; exact beq_self_eq_true m, ix_of_first hno2, ?_⟩
      refine ⟨l, _, _, _, rfl, rfl, SqL.of hl5, atI_nat er2, ?_⟩
      refine ⟨by show 2 ≤ sizeLine; decide, fun t nt => ?_⟩
      have st : Same H5 (upd H5 t (.lst [.ref a1, .ref a2])) := same_upd nt
      have s05 : Same H H5 := s3.trans s5
      have Dt : D ≠ t := ne_of_none eD5 nt
      have Dg : D ≠ g := fun e => ref_ne_int (l := S) h0 (by
        rw [e] at eD5
        rw [eD5] at eg
        injection eg with eg
        injection eg with eg)
      refine ⟨t, rfl, ⟨_, SqL.of upd_same⟩, for_list (K := K) (a := t) (xs := [V.ref a1, V.ref a2]) (fun j σ H6 => ∃ (v5 : Option V) (S' : List (Addr × PP)), σ = [some (.ref l), some (.int n), some (.ref D), some (.int i), some (.ref g), v5] ∧ Same H H6 ∧ H6 t = some (.lst [V.ref a1, V.ref a2]) ∧ H6 g = some (.lst (intL ((prs.map (·.2)).map (gap i)))) ∧ H6 D = some (.lst (refL S')) ∧
          AllA PrA H6 S' ∧ (∀ pr : PP, pr ∈ S'.map (·.2) → pr ∈ prs.map (·.2)) ∧ (∀ pr : PP, pr ∈ S.map (·.2) → pr ∈ S'.map (·.2)) ∧ (0 < M → (1 ≤ j → p1 ∈ S'.map (·.2)) ∧ (2 ≤ j → p2 ∈ S'.map (·.2))) ∧ S'.length ≤ 2 * i + j)
        ⟨v5, S, rfl, s05.trans st, upd_same, st _ _ eg, st _ _ eD5, hS.imp fun a x k => (prA_same _ _ _ _ (s5.trans st) k), hsub, fun _ h => h, fun _ => ⟨fun h => by omega, fun h => by omega⟩, by omega⟩ (fun j σ H6 _ ⟨_, _, _, _, e6, _⟩ => SqL.of e6) ?_ ?_⟩
      · rintro j y σ H6 hj ⟨v5, S', rfl, s6, et6, eg6, eD6, hS', hsub', hup, hin, hl'⟩
        obtain ⟨a, pr, rfl, hm, hp⟩ : ∃ (a : Addr) (pr : PP), y = .ref a ∧ (a, pr) ∈ prs ∧ (0 < M → (∀ (S2 : List (Addr × PP)), (∀ z : PP, z ∈ S'.map (·.2) → z ∈ S2.map (·.2)) → pr ∈ S2.map (·.2) → (1 ≤ j + 1 → p1 ∈ S2.map (·.2)) ∧ (2 ≤ j + 1 → p2 ∈ S2.map (·.2)))) := by
          match j, hj, hin with
          | 0, hj, hin => exact ⟨a1, p1, (Option.some.inj hj).symm, hm1, fun hM S2 hs h => ⟨fun _ => h, fun h => by omega⟩⟩
          | 1, hj, hin => exact ⟨a2, p2, (Option.some.inj hj).symm, hm2, fun hM S2 hs h => ⟨fun _ => hs _ ((hin hM).1 (Nat.le_refl _)), fun _ => h⟩⟩
          | _ + 2, hj, _ => cases hj
        have hjl : j < 2 := (List.getElem?_eq_some_iff.mp hj).1
        have hap : PrA H6 a pr := (hA _ hm).same s6
        refine ⟨_, rfl, g, _, rfl, SqL.of eg6, h0, fun M' hM1' hM2' => ?_⟩
        have eM : M' = M := Int.le_antisymm (hM2 _ hM1') (hM2' _ hM1)
        subst eM
        refine ⟨_, _, rfl, rfl, _, rfl, ?_⟩
        by_cases hM : 0 < M'
        · rw [decide_eq_true hM]
          refine iteT ⟨_, rfl, _, rfl, _, _, dp_pr hap, dp_prs eD6 hS', (gd_pr _).shaped (by decide), (gd_prs _).shaped (by decide), _, rfl, ?_⟩
          rw [any_pr]
          by_cases hin' : pr ∈ S'.map (·.2)
          · rw [decide_eq_true hin']
            exact iteF ⟨_, S', rfl, s6, et6, eg6, eD6, hS', hsub', hup, fun hM => hp hM S' (fun _ h => h) hin', by omega⟩
          · rw [decide_eq_false hin']
            refine iteT ⟨_, rfl, .inl ⟨rfl, _, SqL.of eD6⟩, _, rfl, D, _, _, rfl, rfl, eD6, by rw [len_refL]; exact small (by omega), ?_⟩
            have b7 : But D H6 (upd H6 D (.lst (refL S' ++ [.ref a]))) := But.upd _ _ _
            refine ⟨_, S' ++ [(a, pr)], rfl, Same.butNew s6 b7 nD, b7 _ _ et6 (Ne.symm Dt), b7 _ _ eg6 (Ne.symm Dg), by rw [upd_same, refL_snoc], (hS'.snoc hap).imp fun a x k => b7.pr eD6 (fun z => z) k, fun z hz => ?_, fun z hz => ?_, fun hM => hp hM _ (fun z hz => ?_) ?_, by rw [List.length_append]; show S'.length + 1 ≤ _; omega⟩
            · rw [List.map_append] at hz
              rcases List.mem_append.mp hz with hz | hz
              · exact hsub' z hz
              · rw [List.mem_singleton.mp hz]; exact List.mem_map.mpr ⟨_, hm, rfl⟩
            · rw [List.map_append]; exact List.mem_append_left _ (hup z hz)
            · rw [List.map_append]; exact List.mem_append_left _ hz
            · rw [List.map_append]; exact List.mem_append_right _ (List.mem_singleton_self _)
        · rw [decide_eq_false hM]
          exact iteF ⟨_, S', rfl, s6, et6, eg6, eD6, hS', hsub', hup, fun hM' => absurd hM' hM, by omega⟩
      · rintro σ H6 ⟨v5, S', rfl, s6, et6, eg6, eD6, hS', hsub', hup, hin, hl'⟩
        refine ⟨_, _, _, S', rfl, s6, eD6, hS', hsub', fun a ha => ?_, by have : [V.ref a1, V.ref a2].length = 2 := rfl; omega⟩
        by_cases hai : a = i
        · subst hai
          rcases hz a hi with k | ⟨⟨z1, hz1, g1⟩, z2, hz2, g2⟩
          · exact .inl k
          · have k1 := hM2 _ (List.mem_map.mpr ⟨z1, hz1, rfl⟩)
            have k2 := hm2' _ (List.mem_map.mpr ⟨z2, hz2, rfl⟩)
            have hh := hin (by omega)
            exact .inr ⟨⟨p1, hh.1 (by show 1 ≤ 2; omega), by omega⟩, p2, hh.2 (Nat.le_refl 2), by omega⟩
        · rcases hmix a (by omega) with k | ⟨⟨z1, hz1, g1⟩, z2, hz2, g2⟩
          · exact .inl k
          · exact .inr ⟨⟨z1, hup _ hz1, g1⟩, z2, hup _ hz2, g2⟩
    · rintro σ H3 ⟨v3, v4, v5, S, rfl, s3, eD, hS, hsub, hmix, hSl⟩
      exact ⟨_, rfl, q H3 D S s3 eD hS ⟨hsub, hmix⟩ hSl⟩
end
end PH

/-! The walks: loop_order. -/
namespace PH
open PySem PySem.Spec PyProof.Rows L2
/-- a row of an order: two numbers -/
def RowA (H : Hp) (a : Addr) (x : Int × Int) : Prop := H a = some (.tup [.int x.1, .int x.2])
theorem rowA_same : ∀ (H H' : Hp) (a : Addr) (x : Int × Int), Same H H' → RowA H a x → RowA H' a x := fun _ _ a _ s h => s a _ h
theorem rowA_but : ∀ (H H' : Hp) (D a : Addr) (xs : List V) (x : Int × Int), H D = some (.lst xs) → But D H H' → RowA H a x → RowA H' a x := fun _ _ _ _ _ _ e b h => b.tup e (fun z => z) h
theorem filter_snoc {α : Type} (p : α → Bool) (l : List α) (x : α) : (l ++ [x]).filter p = if p x = true then l.filter p ++ [x] else l.filter p := by
  rw [List.filter_append, List.filter_cons]
  by_cases h : p x = true
  · rw [if_pos h, if_pos h]; rfl
  · rw [if_neg h, if_neg h]; simp
theorem thin_refs (prs : List (Addr × PP)) (a : Nat) : (prs.filter fun p => decide (p.2.1.getD a 0 = p.2.2.getD a 0)).map (·.2) = thin (prs.map (·.2)) a := by
  unfold thin
  rw [List.filter_map]
  rfl
def LoopW (n : Nat) (B : List PP) (Hb : Hp) (p p2 : Addr) (m : Nat) (σ : L2.St) (H : Hp) : Prop := ∃ (v5 : Option V) (l o : Addr) (prs : List (Addr × PP)) (os : List (Addr × (Int × Int))) (O : Ord),
  σ = [some (.ref p), some (.ref p2), some (.ref l), some (.int n), some (.ref o), v5, none, none, none, none] ∧ Same Hb H ∧ H l = some (.lst (refL prs)) ∧ AllA PrA H prs ∧ H o = some (.lst (refL os)) ∧ AllA RowA H os ∧ l ≠ o ∧ Hb o = none ∧
  GInv n B O (prs.map (·.2)) ∧ prs.length = m ∧ os.length + prs.length ≤ 216
section
variable {P : Program} {w : World} {K : PySem.W.Frag} {mg : Str → Option Value} {base : Heap} {C : Addr}
/-- what loop_order may tell: an order, or bars -/
def spLoop (C : Addr) : Sp := fun vs H Q _ => ∃ (p p2 : Addr) (r f f2 : Int) (axes axes2 : List (Nat × Int)), vs = [.ref p, .ref p2] ∧ VwA C H p r f axes ∧ VwA C H p2 r f2 axes2 ∧ axes2.map (·.1) = axes.map (·.1) ∧ Once f axes ∧
  (∀ (H' : Hp) (t x : Addr) (B : List PP), Same H H' → H' t = some (.tup [.str "loops", .ref x]) → IsB (axes.map (·.1)) (cl f axes) (cl f2 axes2) B → (∃ O, IsOrder axes.length O ∧ ∀ pr ∈ B, right O pr) → Q (.ref t) H') ∧
  (∀ (H' : Hp) (t l : Addr) (B : List PP) (S : List (Addr × PP)), Same H H' → H' t = some (.tup [.str "none", .ref l]) → H' l = some (.lst (refL S)) → AllA PrA H' S → IsB (axes.map (·.1)) (cl f axes) (cl f2 axes2) B →
    S.map (·.2) ≠ [] → (∀ pr ∈ S.map (·.2), pr ∈ B) → S.length ≤ 2 * axes.length → (∀ a, a < axes.length → AllZero (S.map (·.2)) a ∨ Mixed (S.map (·.2)) a) → (∀ O, IsOrder axes.length O → ¬ ∀ pr ∈ B, right O pr) → Q (.ref t) H')
theorem ok_loop_order {f : Addr} {fd : FuncData} (F : Fun K "loop_order" "loop_order" s_loop_order f fd) (T : Txt K mg C) (G_bound_pairs : Cal P w K mg base "bound_pairs" 6 ["to", "source"] (spPairs C)) (M_v_sizes : CalM P w K mg base C "sizes" 1 ["self"] (spSizes C))
    (G_way_along : Cal P w K mg base "way_along" 2 ["some", "axis"] spWay) (G_barring : Cal P w K mg base "barring" 2 ["some", "axes"] spBarring) : FnOk P w K mg base CX0 7 f fd ["to", "source"] (spLoop C) := by
  refine F.ok sc_loop_order (fun vs H Q E h => ?_) (fun cdv A outer s H vs Q E hr h => ?_)
  · obtain ⟨p, p2, r, f, f2, axes, axes2, rfl, _⟩ := h
    rfl
  · obtain ⟨p, p2, r, f, f2, axes, axes2, rfl, hV, hV2, hsz, ho, qL, qN⟩ := h
    obtain ⟨⟨dx, lx, xs, hp, _⟩, hz⟩ := id hV
    have hn3 : axes.length ≤ 3 := by
      have := hz.len
      rw [List.length_map] at this
      exact this
    refine ⟨_, (pss_cons (ps_set (i := 2) sc_loop_order.nd rfl (Or.inr rfl) (pe_cal G_bound_pairs hr (by rfl) (pa_cons (pv 0) (pa_cons (pv 1) pa_nil))))
      (pss_cons (ps_set (i := 3) sc_loop_order.nd rfl (Or.inl rfl) (pe_callB call_len_seq (by rfl) T.len b_len (pa_cons (pe_m0 M_v_sizes (pv 0) hr) pa_nil)))
      (pss_cons (ps_set (i := 4) sc_loop_order.nd rfl (Or.inl rfl) (pe_lst pa_nil))
      (pss_cons (ps_while PassesOwn.never (pt_cmpR (op_neD hr.units) (pv 2) (pe_lst pa_nil) (nomark _)) (pss_cons (ps_asg (pe_lc (own := [("axis", 7)]) (g := gName 7) (by rfl) sc_loop_order.nd (pi_range1 rfl T.range (pa_cons (pv 3) pa_nil))  (blkOk_by (own := [("axis", 7)]) (N := N_loop_order) (sc := defScope s_loop_order) (by decide +kernel)) (fun _ _ _ _ _ => (pg_name (i := 7) sc_loop_order.nd rfl (Or.inl rfl))) (fun _ _ _ _ _ => (pts_one (pt_cmpR op_ne (pe_cal G_way_along hr (by rfl) (pa_cons (pv 2) (pa_cons (pv 7) pa_nil))) pe_int (nomark _)))) (fun _ _ _ _ _ => (pv 7))) (pg_name (i := 5) sc_loop_order.nd rfl (Or.inr rfl)))
      (pss_cons (ps_if (pt_cmpR (op_eqD hr.units) (pv 5) (pe_lst pa_nil) (nomark _)) (pss_one (ps_ret (pe_tup (pa_cons pe_str (pa_cons (pe_cal G_barring hr (by rfl) (pa_cons (pv 2) (pa_cons (pv 3) pa_nil))) pa_nil))))) pss_nil)
      (pss_cons (ps_expr (pe_bm PySem.F.plainAttrs_list PySem.F.slot_list_append PySem.F.type_list_append mt_append (pv 4) (pa_cons (pe_tup (pa_cons (pe_ix (k_ixl K) (pv 5) pe_int (fun _ _ => rfl)) (pa_cons (pe_cal G_way_along hr (by rfl) (pa_cons (pv 2) (pa_cons (pe_ix (k_ixl K) (pv 5) pe_int (fun _ _ => rfl)) pa_nil))) pa_nil))) pa_nil)))
      (pss_one (ps_asg (pe_lc (own := [("pair", 8)]) (g := gName 8) (by rfl) sc_loop_order.nd (k_list K (pv 2))  (blkOk_by (own := [("pair", 8)]) (N := N_loop_order) (sc := defScope s_loop_order) (by decide +kernel)) (fun _ _ _ _ _ => (pg_name (i := 8) sc_loop_order.nd rfl (Or.inl rfl))) (fun _ _ _ _ _ => (pts_one (pt_cmpR op_eq (pe_ix (k_ixt K) (pe_ix (k_ixt K) (pv 8) pe_int (fun _ _ => rfl)) (pe_ix (k_ixl K) (pv 5) pe_int (fun _ _ => rfl)) (fun _ _ => rfl)) (pe_ix (k_ixt K) (pe_ix (k_ixt K) (pv 8) pe_int (fun _ _ => rfl)) (pe_ix (k_ixl K) (pv 5) pe_int (fun _ _ => rfl)) (fun _ _ => rfl)) (nomark _)))) (fun _ _ _ _ _ => (pv 8))) (pg_name (i := 2) sc_loop_order.nd rfl (Or.inr rfl))))))))
      (pss_cons (ps_asg (pe_lc (own := [("row", 9)]) (g := gName 9) (tt := tYes) (by rfl) sc_loop_order.nd (k_list K (pv 4))  (blkOk_by (own := [("row", 9)]) (N := N_loop_order) (sc := defScope s_loop_order) (by decide +kernel)) (fun _ _ _ _ _ => (pg_name (i := 9) sc_loop_order.nd rfl (Or.inl rfl))) (fun _ _ _ _ _ => pts_nil) (fun _ _ _ _ _ => (pe_ix (k_ixt K) (pv 9) pe_int (fun _ _ => rfl)))) (pg_name (i := 6) sc_loop_order.nd rfl (Or.inr rfl)))
      (pss_one (ps_ret (pe_tup (pa_cons pe_str (pa_cons (pe_op op_cat (pv 4) (pe_lc (own := [("axis", 7)]) (g := gName 7) (by rfl) sc_loop_order.nd (pi_range1 rfl T.range (pa_cons (pv 3) pa_nil))  (blkOk_by (own := [("axis", 7)]) (N := N_loop_order) (sc := defScope s_loop_order) (by decide +kernel)) (fun _ _ _ _ _ => (pg_name (i := 7) sc_loop_order.nd rfl (Or.inl rfl))) (fun _ _ _ _ _ => (pts_one (pt_cmpR (k_notIn K) (pv 7) (pv 6) rfl))) (fun _ _ _ _ _ => (pe_tup (pa_cons (pv 7) (pa_cons pe_int pa_nil)))))) pa_nil)))))))))), ?_⟩
    refine ⟨_, rfl, _, rfl, p, p2, r, f, f2, axes, axes2, rfl, hV, hV2, hsz, ho, fun H1 l1 prs1 s1 el1 hA1 hB hl1 => ?_⟩
    refine ⟨_, rfl, p, dx, _, rfl, s1 _ _ hp, vm_sizes _ _ _, p, r, f, axes, rfl, hV.same s1, fun H2 a2 s2 e2 => ?_⟩
    refine ⟨a2, _, rfl, .inl (SqL.of e2), ?_⟩
    rw [show (natL (axes.map (·.1))).length = axes.length by rw [List.length_map, List.length_map]]
    generalize hnn : axes.length = n at hn3 qL qN ⊢
    have s02 : Same H H2 := s1.trans s2
    refine ⟨Nat.zero_le _, fun o no => ?_⟩
    have so : Same H2 (upd H2 o (.lst [])) := same_upd no
    have hdB : Dim n (prs1.map (·.2)) := fun pr hpr => by
      have k := (hB.mem pr.1 pr.2).mp hpr
      have k1 := k.1.len
      have k2 := k.2.1.len
      rw [List.length_map, hnn] at k1 k2
      exact ⟨k1, k2⟩
    refine ⟨LoopW n (prs1.map (·.2)) H2 p p2, ⟨_, none, l1, o, prs1, [], [], rfl, so, so _ _ (s2 _ _ el1), hA1.imp fun a x k => prA_same _ _ _ _ (s2.trans so) k, upd_same, AllA.nil, ne_of_none (s2 _ _ el1) no, no, GInv.start _ _, rfl, by show 0 + _ ≤ _; omega⟩, ?_⟩
    rintro m σ H3 ⟨v5, l, o, prs, os, O, rfl, s3, el, hA, eo, hO, hlo, no, G, rfl, hlen⟩
    refine ⟨_, rfl, Nat.zero_le _, fun z nz => ?_⟩
    have sz : Same H3 (upd H3 z (.lst [])) := same_upd nz
    have s3z : Same H2 (upd H3 z (.lst [])) := s3.trans sz
    have elz := sz _ _ el
    have eoz := sz _ _ eo
    have hAz : AllA PrA (upd H3 z (.lst [])) prs := hA.imp fun a x k => prA_same _ _ _ _ sz k
    have hOz : AllA RowA (upd H3 z (.lst [])) os := hO.imp fun a x k => rowA_same _ _ _ _ sz k
    refine ⟨_, _, dp_prs elz hAz, dp_nil upd_same, (gd_prs _).shaped (by decide), gd_nil.shaped (by decide), _, rfl, ?_⟩
    rw [eqv_nil]
    by_cases hne : prs = []
    · subst hne
      refine iteF ?_
      have hfin := G.finish
      refine ⟨_, rfl, o, rfl, ⟨_, SqL.of eoz⟩, fun D nD => ?_⟩
      refine lc_ints (walk_list (K := K) (a := o) (xs := refL os)) (os.map (·.2.1)) (by rw [List.length_map, len_refL]) (by rw [len_refL]; omega) nD
        (fun H4 s4 => SqL.of (s4 _ _ eoz)) (fun i H4 x H5 _ _ y => same_at i H4 x H5 y) (fun i x z' H4 H5 R hi hz' s4 y s5 hR => ?_) (fun H4 s4 e4 => ?_)
      · obtain ⟨rfl, hx⟩ := y
        obtain ⟨a, row, e1, rfl, e3⟩ := refL_get hx
        have er : RowA H5 a row := rowA_same _ _ _ _ s4 (hOz _ (List.mem_of_getElem? e1))
        rw [List.getElem?_map, e1] at hz'
        have ez : row.1 = z' := Option.some.inj hz'
        subst ez
        exact ⟨rfl, _, rfl, a, _, _, _, rfl, rfl, SqT.of er, atI_nat (j := 0) rfl, hR _ (Same.refl _)⟩
      · have eo4 := s4 _ _ eoz
        refine ⟨_, rfl, _, rfl, n, rfl, by omega, by omega, fun D2 nD2 => ?_⟩
        refine lc_it (walk_range (lo := 0) (n := n)) (fun i H5 => Same H4 H5 ∧ ∃ acc : List V, H5 D2 = some (.lst acc) ∧ acc.length ≤ i) ⟨same_upd nD2, [], upd_same, Nat.le_refl _⟩ (fun _ _ _ _ => trivial) (fun i x H5 H6 hi ⟨s5, acc, ea, hal⟩ hy => ?_) (fun H5 ⟨s5, acc, ea, hal⟩ => ?_)
        · obtain ⟨rfl, rfl⟩ := rngY hy
          refine ⟨rfl, _, rfl, _, rfl, D, _, rfl, .inl (SqL.of (s5 _ _ e4)), rfl, flat_ints _, _, rfl, ?_⟩
          refine ite2 (fun _ => ?_) fun _ => ⟨s5, acc, ea, by omega⟩
          refine ⟨_, rfl, by show 2 ≤ sizeLine; decide, fun t nt => ?_⟩
          have st : Same H6 (upd H6 t (.tup [.int i, .int 1])) := same_upd nt
          exact ⟨acc, st _ _ ea, small (by omega), same_new (s5.trans st) nD2, acc ++ [.ref t], upd_same, by rw [List.length_append]; show acc.length + 1 ≤ _; omega⟩
        · refine ⟨o, D2, _, _, rfl, rfl, s5 _ _ eo4, ea, by rw [len_refL]; exact Nat.le_of_lt (small (by omega)), fun x nx => ?_⟩
          refine ⟨by show 2 ≤ sizeLine; decide, fun t nt => ?_⟩
          have sx : Same H5 (upd H5 x (.lst (refL os ++ acc))) := same_upd nx
          exact qL _ t x (prs1.map (·.2)) ((((s02.trans (s3z.trans s4)).trans s5).trans sx).trans (same_upd nt)) upd_same hB hfin
    · have hemp : ((prs.map (·.2)).map dPr).isEmpty = false := by
        cases prs with
        | nil => exact absurd rfl hne
        | cons x r => rfl
      rw [hemp]
      have hne' : prs.map (·.2) ≠ [] := fun e => hne (List.map_eq_nil_iff.mp e)
      have hdL : Dim n (prs.map (·.2)) := fun pr hpr => hdB pr (G.sub pr hpr)
      refine iteT ⟨fun σ' H' => ∃ m', m' < prs.length ∧ LoopW n (prs1.map (·.2)) H2 p p2 m' σ' H', fun _ _ h => h, ?_⟩
      -- taken
      refine ⟨_, rfl, n, rfl, by omega, by omega, fun k nk => ?_⟩
      refine lc_it (walk_range (lo := 0) (n := n)) (fun i H5 => Same (upd H3 z (.lst [])) H5 ∧ H5 k = some (.lst (natL ((List.range i).filter fun a => !decide (V.int (wayF (prs.map (·.2)) a) = V.int 0))))) ⟨same_upd nk, upd_same⟩ (fun _ _ _ _ => trivial) (fun i x H5 H6 hi ⟨s5, ek⟩ hy => ?_) (fun H5 ⟨s5, ek⟩ => ?_)
      · obtain ⟨rfl, rfl⟩ := rngY hy
        refine ⟨rfl, _, rfl, _, rfl, l, n, i, prs, rfl, s5 _ _ elz, hAz.imp fun a x k => prA_same _ _ _ _ s5 k, hdL, hi, by omega, hne, fun H7 s7 => ?_⟩
        refine ⟨rfl, _, rfl, ?_⟩
        have ek7 := s7 _ _ ek
        have hlf : (natL ((List.range i).filter fun a => !decide (V.int (wayF (prs.map (·.2)) a) = V.int 0))).length ≤ i := by
          rw [List.length_map]
          have := List.length_filter_le (fun a => !decide (V.int (wayF (prs.map (·.2)) a) = V.int 0)) (List.range i)
          rw [List.length_range] at this
          exact this
        refine ite2 (fun hc => ?_) fun hc => ⟨s5.trans s7, ?_⟩
        · refine ⟨_, rfl, _, ek7, small (by omega), same_new (s5.trans s7) nk, ?_⟩
          rw [upd_same, List.range_succ, filter_snoc, if_pos hc, natL_snoc]
          rfl
        · rw [ek7, List.range_succ, filter_snoc, if_neg hc]
      · have s35 : Same H2 H5 := s3z.trans s5
        have el5 := s5 _ _ elz
        have eo5 := s5 _ _ eoz
        have hA5 : AllA PrA H5 prs := hAz.imp fun a x k => prA_same _ _ _ _ s5 k
        have hO5 : AllA RowA H5 os := hOz.imp fun a x k => rowA_same _ _ _ _ s5 k
        generalize hT : ((List.range n).filter fun a => !decide (V.int (wayF (prs.map (·.2)) a) = V.int 0)) = T at ek
        refine ⟨_, rfl, Nat.zero_le _, fun z2 nz2 => ?_⟩
        have sz2 : Same H5 (upd H5 z2 (.lst [])) := same_upd nz2
        have ek6 := sz2 _ _ ek
        have ek6' := ek6
        rw [nats_ints] at ek6'
        refine ⟨_, _, dp_is (SqL.of ek6'), dp_nil upd_same, (gd_is _).shaped (by decide), gd_nil.shaped (by decide), _, rfl, ?_⟩
        unfold dIs
        rw [eqv_nil]
        have el6 := sz2 _ _ el5
        have eo6 := sz2 _ _ eo5
        have hA6 : AllA PrA (upd H5 z2 (.lst [])) prs := hA5.imp fun a x k => prA_same _ _ _ _ sz2 k
        have hO6 : AllA RowA (upd H5 z2 (.lst [])) os := hO5.imp fun a x k => rowA_same _ _ _ _ sz2 k
        have s06 : Same H2 (upd H5 z2 (.lst [])) := s35.trans sz2
        have inT : ∀ a, a ∈ T ↔ a < n ∧ wayF (prs.map (·.2)) a ≠ 0 := fun a => by
          rw [← hT, List.mem_filter, List.mem_range, Bool.not_eq_true', decide_eq_false_iff_not]
          constructor
          · rintro ⟨h1, h2⟩; exact ⟨h1, fun e => h2 (congrArg V.int e)⟩
          · rintro ⟨h1, h2⟩; exact ⟨h1, fun e => h2 (by injection e)⟩
        cases T with
        | nil =>
          refine iteT ?_
          have hz0 : ∀ a, a < n → wayF (prs.map (·.2)) a = 0 := fun a ha => Decidable.byContradiction fun h => by
            have := (inT a).mpr ⟨ha, h⟩
            simp at this
          refine ⟨_, rfl, _, rfl, l, n, prs, rfl, el6, hA6, hdL, hn3, by omega, hne, fun a ha => way_of_zero (hz0 a ha), fun H7 D S s7 eD hS bar hSl => ?_⟩
          refine ⟨by show 2 ≤ sizeLine; decide, fun t nt => ?_⟩
          have st : Same H7 (upd H7 t (.tup [.str "none", .ref D])) := same_upd nt
          refine qN _ t D (prs1.map (·.2)) S (((s02.trans s06).trans s7).trans st) upd_same (st _ _ eD) (hS.imp fun a x k => prA_same _ _ _ _ st k) hB (bar.ne hne' fun pr hpr => ?_) (fun pr hpr => G.sub pr (bar.sub pr hpr)) hSl (fun a ha => ?_) fun O' hO' => G.stuck hne' hz0 O' hO'
          · have k := (hB.mem pr.1 pr.2).mp (G.sub pr hpr)
            have hd := hdL pr hpr
            exact gap_ne hd.1 hd.2 k.2.2.1
          · rcases bar.mix a ha with k | k
            · exact .inl fun pr hpr => k pr (bar.sub pr hpr)
            · exact .inr k
        | cons a T' =>
          refine iteF ?_
          obtain ⟨ha, hwa⟩ := (inT a).mp List.mem_cons_self
          refine ⟨_, rfl, .inl ⟨rfl, _, SqL.of eo6⟩, _, rfl, k, _, _, _, rfl, rfl, SqL.of ek6, atI_nat (j := 0) rfl, ?_⟩
          refine ⟨_, rfl, _, rfl, k, _, _, _, rfl, rfl, SqL.of ek6, atI_nat (j := 0) rfl, l, n, a, prs, rfl, el6, hA6, hdL, ha, by omega, hne, fun H7 s7 => ?_⟩
          refine ⟨by show 2 ≤ sizeLine; decide, fun t nt => ?_⟩
          have st : Same H7 (upd H7 t (.tup [nI a, .int (wayF (prs.map (·.2)) a)])) := same_upd nt
          have s6t := s7.trans st
          have eo8 := s6t _ _ eo6
          refine ⟨o, _, _, rfl, rfl, eo8, by rw [len_refL]; exact small (by omega), ?_⟩
          have b8 : But o (upd H7 t (.tup [nI a, .int (wayF (prs.map (·.2)) a)])) (upd (upd H7 t (.tup [nI a, .int (wayF (prs.map (·.2)) a)])) o (.lst (refL os ++ [.ref t]))) := But.upd _ _ _
          have eo9 : upd (upd H7 t (.tup [nI a, .int (wayF (prs.map (·.2)) a)])) o (.lst (refL os ++ [.ref t])) o = some (.lst (refL (os ++ [(t, ((a : Int), wayF (prs.map (·.2)) a))]))) := by rw [upd_same, refL_snoc]
          generalize upd (upd H7 t (.tup [nI a, .int (wayF (prs.map (·.2)) a)])) o (.lst (refL os ++ [.ref t])) = H8 at b8 eo9 ⊢
          have bt : But o (upd H5 z2 (.lst [])) H8 := (Same.but s6t).trans b8
          have el9 : H8 l = some (.lst (refL prs)) := bt _ _ el6 hlo
          have ko : k ≠ o := Ne.symm (ne_of_none eoz nk)
          have ek9 : H8 k = some (.lst (natL (a :: T'))) := bt _ _ ek6 ko
          have hA9 : AllA PrA H8 prs := hA6.imp fun a x k => bt.pr eo6 (fun z => z) k
          have hO9 : AllA RowA H8 (os ++ [(t, ((a : Int), wayF (prs.map (·.2)) a))]) := ((hO6.imp fun a x k => rowA_same _ _ _ _ s6t k).snoc (show RowA (upd H7 t (.tup [nI a, .int (wayF (prs.map (·.2)) a)])) t ((a : Int), wayF (prs.map (·.2)) a) from upd_same)).imp fun a x k => b8.tup eo8 (fun z => z) k
          have s9 : Same H2 H8 := Same.butNew s06 bt no
          -- left
          refine ⟨_, rfl, l, rfl, ⟨_, SqL.of el9⟩, fun D nD => ?_⟩
          refine lc_it (walk_list (K := K) (a := l) (xs := refL prs)) (fun i H10 => Same H8 H10 ∧ H10 D = some (.lst (refL ((prs.take i).filter fun p => decide (p.2.1.getD a 0 = p.2.2.getD a 0))))) ⟨same_upd nD, upd_same⟩ (fun i H10 _ h => SqL.of (h.1 _ _ el9)) (fun i x H10 H11 hi ⟨s10, eD⟩ hy => ?_) (fun H10 ⟨s10, eD⟩ => ?_)
          · obtain ⟨rfl, hx⟩ := hy
            obtain ⟨b, pr, e1, rfl, e3⟩ := refL_get hx
            obtain ⟨c1, c2, e, ec1, ec2⟩ := (hA9 _ (List.mem_of_getElem? e1)).same s10
            have hlen := hdL pr (List.mem_of_getElem? e3)
            have g1 : (pr.1.map nI)[a]? = some (nI (pr.1.getD a 0)) := by
              rw [List.getElem?_map, List.getD_eq_getElem?_getD, List.getElem?_eq_getElem (by omega)]
              rfl
            have g2 : (pr.2.map nI)[a]? = some (nI (pr.2.getD a 0)) := by
              rw [List.getElem?_map, List.getD_eq_getElem?_getD, List.getElem?_eq_getElem (by omega)]
              rfl
            have ek10 := s10 _ _ ek9
            have hfl : (refL ((prs.take i).filter fun p => decide (p.2.1.getD a 0 = p.2.2.getD a 0))).length ≤ 216 := by
              rw [len_refL]
              have h1 := List.length_filter_le (fun p : Addr × PP => decide (p.2.1.getD a 0 = p.2.2.getD a 0)) (prs.take i)
              rw [List.length_take] at h1
              omega
            refine ⟨rfl, _, rfl, b, _, _, _, rfl, rfl, SqT.of e, atI_nat (j := 0) rfl, _, rfl, k, _, _, _, rfl, rfl, SqL.of ek10, atI_nat (j := 0) rfl, c1, _, _, _, rfl, rfl, SqT.of ec1, atI_nat g1, ?_⟩
            refine ⟨_, rfl, b, _, _, _, rfl, rfl, SqT.of e, atI_nat (j := 1) rfl, _, rfl, k, _, _, _, rfl, rfl, SqL.of ek10, atI_nat (j := 0) rfl, c2, _, _, _, rfl, rfl, SqT.of ec2, atI_nat g2, ?_⟩
            refine ⟨rfl, _, rfl, ?_⟩
            have hc : decide (V.int (pr.1.getD a 0 : Nat) = V.int (pr.2.getD a 0 : Nat)) = decide (pr.1.getD a 0 = pr.2.getD a 0) := by
              rw [Bool.eq_iff_iff, decide_eq_true_eq, decide_eq_true_eq]
              constructor
              · intro h; injection h with h; exact Int.ofNat.inj h
              · intro h; rw [h]
            unfold nI
            rw [hc]
            refine ite2 (fun h => ?_) fun h => ⟨s10, ?_⟩
            · refine ⟨_, rfl, _, eD, small (by omega), same_new s10 nD, ?_⟩
              rw [upd_same, take_snoc e1, filter_snoc, if_pos h, refL_snoc]
            · rw [eD, take_snoc e1, filter_snoc, if_neg h]
          · rw [len_refL, List.take_length] at eD
            obtain ⟨G', hlt⟩ := G.step ha hwa
            rw [← thin_refs] at G' hlt
            rw [List.length_map, List.length_map] at hlt
            refine ⟨_, hlt, _, D, o, _, _, _, rfl, s9.trans s10, eD, fun q hq => prA_same _ _ _ _ s10 (hA9 q (List.mem_filter.mp hq).1), s10 _ _ eo9, hO9.imp fun a x k => rowA_same _ _ _ _ s10 k, Ne.symm (ne_of_none eo9 nD), no, G', rfl, ?_⟩
            rw [List.length_append]
            show os.length + 1 + _ ≤ 216
            omega
end
end PH

/-! The walks: bars. -/
namespace PH
open PySem PySem.Spec PyProof.Rows L2
theorem keys_storedH (xs : List NE) (k : NestedKey) (a : Addr) (v : Value) : k ∈ (storedH xs k a v).map (·.1) ∧ ∀ x, x ∈ xs.map (·.1) → x ∈ (storedH xs k a v).map (·.1) := by
  unfold storedH
  split
  · rename_i h
    have e : (xs.map (putAt k v)).map (·.1) = xs.map (·.1) := by
      rw [List.map_map]
      refine List.map_congr_left fun x _ => ?_
      show (putAt k v x).1 = x.1
      unfold putAt
      split <;> rfl
    rw [e]
    refine ⟨?_, fun x h => h⟩
    unfold atKey at h
    rw [Option.isSome_map, List.find?_isSome] at h
    obtain ⟨x, hx, hk⟩ := h
    exact List.mem_map.mpr ⟨x, hx, of_decide_eq_true hk⟩
  · rw [List.map_append]
    exact ⟨List.mem_append_right _ (List.mem_singleton_self _), fun x h => List.mem_append_left _ h⟩
theorem len_storedH (xs : List NE) (k : NestedKey) (a : Addr) (v : Value) : (storedH xs k a v).length ≤ xs.length + 1 := by
  unfold storedH
  split
  · rw [List.length_map]; omega
  · rw [List.length_append]; exact Nat.le_refl _
theorem KeysA.put {H : Hp} {xs : List NE} (h : KeysA H xs) {a : Addr} {pr : PP} (k : PrA H a pr) (v : Value) : KeysA H (storedH xs (prKey pr) a v) := fun x hx => by
  rcases PyProof.Rows.mem_storedH hx with ⟨y, hy, e1, e2⟩ | ⟨e1, e2⟩
  · obtain ⟨q, q1, q2⟩ := h y hy
    exact ⟨q, e1.trans q1, by rw [e2]; exact q2⟩
  · exact ⟨pr, e1, by rw [e2]; exact k⟩
section
variable {P : Program} {w : World} {K : PySem.W.Frag} {mg : Str → Option Value} {base : Heap} {C : Addr}
def spIsBound (P : Program) (w : World) (K : PySem.W.Frag) : Sp := fun vs H Q _ => ∃ (a d t : Addr) (sz : List Nat) (pr : PP) (xs : List NE), vs = [.ref a, .ref d, .ref t] ∧ SqL K H a (natL sz) ∧ SzOk sz ∧ PrA H t pr ∧ IsPl sz pr.1 ∧ IsPl sz pr.2 ∧ H d = some (.ext (KnO P w d xs)) ∧ KeysA H xs ∧ prKey pr ∈ xs.map (·.1) ∧
  ∀ (H' : Hp), Same H H' → Q (.bl true) H'
theorem ok_is_bound {f : Addr} {fd : FuncData} (F : Fun K "is_bound" "is_bound" s_is_bound f fd) (T : Txt K mg C) (G_number_of : Cal P w K mg base "number_of" 3 ["sizes", "place"] (spNumber K)) : FnOk P w K mg base CX0 4 f fd ["sizes", "known", "thing"] (spIsBound P w K) := by
  refine F.ok sc_is_bound (fun vs H Q E h => ?_) (fun cdv A outer s H vs Q E hr h => ?_)
  · obtain ⟨a, d, t, sz, pr, xs, rfl, _⟩ := h
    rfl
  · obtain ⟨a, d, t, sz, pr, xs, rfl, ha, hz, hpr, h1, h2, hd, hk, hin, q⟩ := h
    obtain ⟨b, c, e, eb, ec⟩ := id hpr
    refine ⟨_, (pss_cons (ps_if (PW.pt (pw_or (pt_not (pt_val (pe_callB call_isi (by rfl) T.isinstance b_isinstance (pa_cons (pv 2) (pa_cons (pe_bltn (v := .ty "tuple") (by rfl) T.tuple b_tuple rfl) pa_nil))))) (pw_or1 (pt_cmpR op_ne (pe_callB call_len_seq (by rfl) T.len b_len (pa_cons (pv 2) pa_nil)) pe_int (nomark _))))) (pss_one (ps_ret pe_bl)) pss_nil)
      (pss_cons (ps_for PassesOwn.never rfl (pi_tup (pv 2)) (pg_name (i := 3) sc_is_bound.nd rfl (Or.inl rfl)) (pss_one (ps_try_thru0 (pss_one (ps_expr (pe_cal G_number_of hr (by rfl) (pa_cons (pv 0) (pa_cons (pv 3) pa_nil))))))))
      (pss_one (ps_ret (pe_cmp (pc_nin hr.units (pv 2) (pv 1)) rfl))))), ?_⟩
    have hT : SqT K H t [.ref b, .ref c] := SqT.of e
    refine ⟨_, rfl, _, _, .type "tuple", .type "tuple", true, rfl, .ty _, .base (.tup e), kit_ty (by decide +kernel), true, rfl, iteF ?_⟩
    refine ⟨_, rfl, t, _, rfl, .inr hT, rfl, _, rfl, iteNS rfl ?_⟩
    refine ⟨_, rfl, t, rfl, ⟨_, hT⟩, for_it (walk_tup (K := K) (a := t) (xs := [V.ref b, V.ref c])) (fun i σ H2 => ∃ v3 : Option V, σ = [some (.ref a), some (.ref d), some (.ref t), v3] ∧ Same H H2)
      ⟨none, rfl, Same.refl H⟩ (fun i σ H2 _ ⟨_, _, s2⟩ => SqT.of (s2 _ _ e)) ?_ ?_⟩
    · rintro i y σ H2 H3 hi ⟨v3, rfl, s2⟩ ⟨rfl, hy⟩
      obtain ⟨u, p, rfl, hp, hpl⟩ : ∃ (u : Addr) (p : Pl), y = .ref u ∧ PlA H u p ∧ IsPl sz p := by
        match i, hy with
        | 0, hy => exact ⟨b, _, (Option.some.inj hy).symm, eb, h1⟩
        | 1, hy => exact ⟨c, _, (Option.some.inj hy).symm, ec, h2⟩
        | _ + 2, hy => cases hy
      exact ⟨_, rfl, _, rfl, a, u, sz, p, rfl, s2.seq ha, hp.same s2, hpl, hz, fun H4 z s4 => ⟨_, rfl, s2.trans s4⟩⟩
    · rintro σ H2 ⟨v3, rfl, s2⟩
      refine ⟨_, rfl, _, rfl, d, t, pr, xs, rfl, rfl, hpr.same s2, s2 _ _ hd, hk.same fun a x k => prA_same _ _ _ _ s2 k, ?_⟩
      rw [decide_eq_true hin]
      exact q H2 s2
/-! bars -/
def spBars (C : Addr) : Sp := fun vs H Q _ => ∃ (p p2 l : Addr) (r f f2 : Int) (axes axes2 : List (Nat × Int)) (S : List (Addr × PP)), vs = [.ref p, .ref p2, .ref l] ∧ VwA C H p r f axes ∧ VwA C H p2 r f2 axes2 ∧ axes2.map (·.1) = axes.map (·.1) ∧ Once f axes ∧
  H l = some (.lst (refL S)) ∧ AllA PrA H S ∧ S.map (·.2) ≠ [] ∧ S.length ≤ 2 * axes.length ∧ (∀ B, IsB (axes.map (·.1)) (cl f axes) (cl f2 axes2) B → ∀ pr ∈ S.map (·.2), pr ∈ B) ∧ (∀ a, a < axes.length → AllZero (S.map (·.2)) a ∨ Mixed (S.map (·.2)) a) ∧
  ∀ (H' : Hp), Same H H' → Q (.bl true) H'
theorem ok_bars {f : Addr} {fd : FuncData} (F : Fun K "bars" "bars" s_bars f fd) (T : Txt K mg C) (G_bound_pairs : Cal P w K mg base "bound_pairs" 6 ["to", "source"] (spPairs C)) (M_v_sizes : CalM P w K mg base C "sizes" 1 ["self"] (spSizes C))
    (G_is_bound : Cal P w K mg base "is_bound" 4 ["sizes", "known", "thing"] (spIsBound P w K)) (G_gaps : Cal P w K mg base "gaps" 1 ["some", "axis"] spGaps) : FnOk P w K mg base CX0 7 f fd ["to", "source", "some"] (spBars C) := by
  refine F.ok sc_bars (fun vs H Q E h => ?_) (fun cdv A outer s H vs Q E hr h => ?_)
  · obtain ⟨p, p2, l, r, f, f2, axes, axes2, S, rfl, _⟩ := h
    rfl
  · obtain ⟨p, p2, l, r, f, f2, axes, axes2, S, rfl, hV, hV2, hsz, ho, el, hS, hne, hSl, hsub, hmix, q⟩ := h
    obtain ⟨⟨dx, lx, xs, hp, _⟩, hz⟩ := id hV
    have hn3 : axes.length ≤ 3 := by
      have := hz.len
      rw [List.length_map] at this
      exact this
    refine ⟨_, (pss_cons (ps_set (i := 3) sc_bars.nd rfl (Or.inl rfl) pe_dnewN)
      (pss_cons (ps_for PassesOwn.never rfl (k_list K (pe_cal G_bound_pairs hr (by rfl) (pa_cons (pv 0) (pa_cons (pv 1) pa_nil)))) (pg_name (i := 4) sc_bars.nd rfl (Or.inl rfl)) (pss_one (ps_nput hr.units (pv 3) (pv 4) pe_bl rfl)))
      (pss_cons (ps_set (i := 5) sc_bars.nd rfl (Or.inl rfl) (pe_m0 M_v_sizes (pv 0) hr))
      (pss_cons (ps_if (PW.pt (pw_or (pt_not (pt_val (pe_callB call_isi (by rfl) T.isinstance b_isinstance (pa_cons (pv 2) (pa_cons (pe_bltn (v := .ty "list") (by rfl) T.list b_list rfl) pa_nil))))) (pw_or1 (pt_cmpR (op_eqD hr.units) (pv 2) (pe_lst pa_nil) (nomark _))))) (pss_one (ps_ret pe_bl)) pss_nil)
      (pss_cons (ps_for PassesOwn.never rfl (k_list K (pv 2)) (pg_name (i := 6) sc_bars.nd rfl (Or.inl rfl)) (pss_one (ps_if (pt_not (pt_val (pe_cal G_is_bound hr (by rfl) (pa_cons (pv 5) (pa_cons (pv 3) (pa_cons (pv 6) pa_nil)))))) (pss_one (ps_ret pe_bl)) pss_nil)))
      (pss_cons (ps_for PassesOwn.never rfl (pi_range1 rfl T.range (pa_cons (pe_callB call_len_seq (by rfl) T.len b_len (pa_cons (pv 5) pa_nil)) pa_nil)) (pg_name (i := 7) sc_bars.nd rfl (Or.inl rfl)) (pss_cons (ps_set (i := 8) sc_bars.nd rfl (Or.inl rfl) (pe_cal G_gaps hr (by rfl) (pa_cons (pv 2) (pa_cons (pv 7) pa_nil))))
      (pss_one (ps_if (pt_cmpR op_ne (pe_cmpR op_lt (pe_callB (cr_min rfl) (by rfl) T.min b_min (pa_cons (pv 8) pa_nil)) pe_int (nomark _)) (pe_cmpR op_gt (pe_callB (cr_max rfl) (by rfl) T.max b_max (pa_cons (pv 8) pa_nil)) pe_int (nomark _)) (nomark _)) (pss_one (ps_ret pe_bl)) pss_nil))))
      (pss_one (ps_ret pe_bl)))))))), ?_⟩
    intro d nd
    have sd : Same H (upd H d (.ext (KnO P w d []))) := same_upd nd
    refine ⟨_, rfl, _, rfl, p, p2, r, f, f2, axes, axes2, rfl, hV.same sd, hV2.same sd, hsz, ho, fun H1 l1 prs s1 el1 hA1 hB hl1 => ?_⟩
    have hsub' := hsub _ hB
    have s01 : Same H H1 := sd.trans s1
    have isP : ∀ pr, pr ∈ prs.map (·.2) → IsPl (axes.map (·.1)) pr.1 ∧ IsPl (axes.map (·.1)) pr.2 := fun pr h => by
      have k := (hB.mem pr.1 pr.2).mp h
      exact ⟨k.1, k.2.1⟩
    refine ⟨l1, rfl, ⟨_, SqL.of el1⟩, for_list (K := K) (a := l1) (xs := refL prs) (fun i σ H3 => ∃ (v4 : Option V) (xs : List NE), σ = [some (.ref p), some (.ref p2), some (.ref l), some (.ref d), v4, none, none, none, none] ∧ Same H H3 ∧ H3 l1 = some (.lst (refL prs)) ∧ AllA PrA H3 prs ∧ H3 d = some (.ext (KnO P w d xs)) ∧ KeysA H3 xs ∧ xs.length ≤ i ∧
        ∀ pr, pr ∈ (prs.map (·.2)).take i → prKey pr ∈ xs.map (·.1))
      ⟨none, [], rfl, s01, el1, hA1, s1 _ _ upd_same, (fun x h => by simp at h), Nat.le_refl _, fun x h => by simp at h⟩ (fun i σ H3 _ ⟨_, _, _, _, e3, _⟩ => SqL.of e3) ?_ ?_⟩
    · rintro i y σ H3 hi ⟨v4, xs, rfl, s3, e3, hA3, ed, hk, hxl, hin⟩
      obtain ⟨a, pr, ea, rfl, ea2⟩ := refL_get hi
      have hil : i < prs.length := (List.getElem?_eq_some_iff.mp ea).1
      have hpa : PrA H3 a pr := hA3 _ (List.mem_of_getElem? ea)
      refine ⟨_, rfl, _, rfl, d, a, pr, xs, true, rfl, rfl, rfl, hpa, ed, hk, Nat.le_of_lt (small (by omega)), ?_⟩
      have b4 : But d H3 (upd H3 d (.ext (KnO P w d (storedH xs (prKey pr) a (.bool true))))) := But.upd _ _ _
      have ks := keys_storedH xs (prKey pr) a (.bool true)
      refine ⟨_, _, rfl, Same.butNew s3 b4 nd, b4 _ _ e3 (ne_of e3 ed (by intro z; cases z)), hA3.imp fun a x k => b4.pr ed (fun z => z) k, upd_same, (hk.put hpa _).same fun a x k => b4.pr ed (fun z => z) k, Nat.le_trans (len_storedH _ _ _ _) (Nat.succ_le_succ hxl), fun x hx => ?_⟩
      rw [take_snoc ea2] at hx
      rcases List.mem_append.mp hx with hx | hx
      · exact ks.2 _ (hin x hx)
      · rw [List.mem_singleton.mp hx]; exact ks.1
    · rintro σ H3 ⟨v4, xs, rfl, s3, e3, hA3, ed, hk, hxl, hin⟩
      rw [len_refL, show prs.length = (prs.map (·.2)).length from (List.length_map _).symm, List.take_length] at hin
      refine ⟨_, rfl, p, dx, _, rfl, s3 _ _ hp, vm_sizes _ _ _, p, r, f, axes, rfl, hV.same s3, fun H4 a4 s4 e4 => ?_⟩
      have s04 := s3.trans s4
      have el4 := s04 _ _ el
      have hS4 : AllA PrA H4 S := hS.imp fun a x k => prA_same _ _ _ _ s04 k
      refine ⟨_, rfl, _, _, .type "list", .type "list", true, rfl, .ty _, .base (.lst el4), kit_ty (by decide +kernel), true, rfl, iteF ?_⟩
      refine ⟨_, rfl, Nat.zero_le _, fun z nz => ?_⟩
      have sz : Same H4 (upd H4 z (.lst [])) := same_upd nz
      have hSz : AllA PrA (upd H4 z (.lst [])) S := hS4.imp fun a x k => prA_same _ _ _ _ sz k
      refine ⟨_, _, dp_prs (sz _ _ el4) hSz, dp_nil upd_same, (gd_prs _).shaped (by decide), gd_nil.shaped (by decide), _, rfl, ?_⟩
      rw [eqv_nil, show ((S.map (·.2)).map dPr).isEmpty = false from by
        cases S with
        | nil => exact absurd rfl hne
        | cons x r => rfl]
      refine iteF ?_
      have s0z := s04.trans sz
      have s3z := s4.trans sz
      -- the pairs that are told
      refine ⟨_, rfl, l, rfl, ⟨_, SqL.of (sz _ _ el4)⟩, for_list (K := K) (a := l) (xs := refL S) (fun i σ H5 => ∃ (v4 v6 : Option V), σ = [some (.ref p), some (.ref p2), some (.ref l), some (.ref d), v4, some (.ref a4), v6, none, none] ∧ Same (upd H4 z (.lst [])) H5)
        ⟨v4, none, rfl, Same.refl _⟩ (fun i σ H5 _ ⟨_, _, _, s5⟩ => SqL.of (s5 _ _ (sz _ _ el4))) ?_ ?_⟩
      · rintro i y σ H5 hi ⟨v4, v6, rfl, s5⟩
        obtain ⟨a, pr, ea, rfl, ea2⟩ := refL_get hi
        have s35 := s3z.trans s5
        have hb := hsub' pr (List.mem_of_getElem? ea2)
        have ip := isP pr hb
        refine ⟨_, rfl, _, rfl, _, rfl, a4, d, a, axes.map (·.1), pr, xs, rfl, SqL.of (s5 _ _ (sz _ _ e4)), hz, (hSz _ (List.mem_of_getElem? ea)).same s5, ip.1, ip.2, s35 _ _ ed, hk.same fun a x k => prA_same _ _ _ _ s35 k, hin pr hb, fun H6 s6 => ?_⟩
        exact ⟨true, rfl, iteF ⟨_, _, rfl, s5.trans s6⟩⟩
      · rintro σ H5 ⟨v4, v6, rfl, s5⟩
        have e5 := s5 _ _ (sz _ _ e4)
        have el5 := s5 _ _ (sz _ _ el4)
        have s05 := s0z.trans s5
        refine ⟨_, rfl, a4, _, rfl, .inl (SqL.of e5), ?_⟩
        rw [show (natL (axes.map (·.1))).length = axes.length by rw [List.length_map, List.length_map]]
        refine ⟨axes.length, rfl, by omega, by omega, for_it (walk_range (lo := 0) (n := axes.length)) (fun i σ H6 => ∃ (v4 v6 v7 v8 : Option V), σ = [some (.ref p), some (.ref p2), some (.ref l), some (.ref d), v4, some (.ref a4), v6, v7, v8] ∧ Same H5 H6)
          ⟨v4, v6, none, none, rfl, Same.refl _⟩ (fun _ _ _ _ _ => trivial) ?_ ?_⟩
        · rintro i y σ H6 H7 hi ⟨v4, v6, v7, v8, rfl, s6⟩ hy
          obtain ⟨rfl, rfl⟩ := rngY hy
          have hd : Dim axes.length (S.map (·.2)) := fun pr hpr => by
            have ip := isP pr (hsub' pr hpr)
            have k1 := ip.1.len
            have k2 := ip.2.len
            rw [List.length_map] at k1 k2
            exact ⟨k1, k2⟩
          have s56 := s05.trans s6
          refine ⟨_, rfl, _, rfl, l, axes.length, i, S, rfl, s6 _ _ el5, hS.imp fun a x k => prA_same _ _ _ _ s56 k, hd, hi, by omega, fun H8 g s8 eg => ?_⟩
          have hg : SqL K H8 g (((S.map (·.2)).map (gap i)).map V.int) := SqL.of eg
          have h0 : 0 < ((S.map (·.2)).map (gap i)).length := by
            rw [List.length_map]
            exact List.length_pos_iff.mpr hne
          refine ⟨_, rfl, g, _, rfl, hg, h0, fun m hm1 hm2 => ?_⟩
          refine ⟨_, _, rfl, rfl, _, rfl, g, _, rfl, hg, h0, fun M hM1 hM2 => ?_⟩
          refine ⟨_, _, rfl, rfl, ?_⟩
          obtain ⟨z1, hz1, e1⟩ := List.mem_map.mp hm1
          obtain ⟨z2, hz2, e2⟩ := List.mem_map.mp hM1
          have same : decide (m < 0) = decide (0 < M) := by
            rw [Bool.eq_iff_iff, decide_eq_true_eq, decide_eq_true_eq]
            rcases hmix i hi with k | ⟨⟨y1, hy1, g1⟩, y2, hy2, g2⟩
            · have k1 := k z1 hz1
              have k2 := k z2 hz2
              omega
            · have k1 := hM2 _ (List.mem_map.mpr ⟨y1, hy1, rfl⟩)
              have k2 := hm2 _ (List.mem_map.mpr ⟨y2, hy2, rfl⟩)
              omega
          refine ⟨rfl, _, rfl, iteNS (congrArg V.bl same) ?_⟩
          exact ⟨_, _, _, _, rfl, s6.trans s8⟩
        · rintro σ H6 ⟨v4, v6, v7, v8, rfl, s6⟩
          exact q H6 (s05.trans s6)
end
end PH

/-! The walks: what the law draws. -/
namespace PH
open PySem PySem.Spec PyProof.Rows L2
theorem cmulL {i j : Int} (h1 : -1000000000000000000 ≤ i) (h2 : i ≤ 1000000000000000000) : CMul i j := .inl ⟨by omega, by omega⟩
theorem cmulR {i j : Int} (h1 : -1000000000000000000 ≤ j) (h2 : j ≤ 1000000000000000000) : CMul i j := .inr ⟨by omega, by omega⟩
theorem cdiv {i j : Int} (h1 : 0 < j) (h2 : j ≤ 1000000) : CDiv i j := ⟨h1, by omega⟩
section
variable {P : Program} {w : World} {K : PySem.W.Frag} {mg : Str → Option Value} {base : Heap} {C : Addr}
/-- what _law_draw gives -/
def drawRaw (ns : List Int) (k : Nat) : Int :=
  if k < ns.length then ns.getD k 0 else
    (if 0 < ns.length then ns.getD (k % ns.length) 0 % 999999937 * (48271 + 2 * (k : Int) * (k : Int)) + (k : Int) * 69621 else (k : Int) * (k : Int) * 7919 + 104729) % 2147483647 * 16807 % 2147483629
def drawF (ns : List Int) (k : Nat) (m : Int) : Int := drawRaw ns k % m
def spDraw (K : PySem.W.Frag) : Sp := fun vs H Q _ => ∃ (l : Addr) (ns : List Int) (k : Nat) (m : Int), vs = [.ref l, .int k, .int m] ∧ SqL K H l (intL ns) ∧ ns.length ≤ 63 ∧ k ≤ 100 ∧ 0 < m ∧ ∀ z : Int, 0 ≤ z → z < m → z = drawF ns k m → Q (.int z) H
theorem ok_l_draw {f : Addr} {fd : FuncData} (F : Fun K "_law_draw" "_law_draw" s_l_draw f fd) (T : Txt K mg C) : FnOk P w K mg base CX0 1 f fd ["_law_script", "_law_k", "_law_many"] (spDraw K) := by
  refine F.ok sc_l_draw (fun vs H Q E h => ?_) (fun cdv A outer s H vs Q E hr h => ?_)
  · obtain ⟨l, ns, k, m, rfl, _⟩ := h
    rfl
  · obtain ⟨l, ns, k, m, rfl, hS, hns, hk, hm, q⟩ := h
    have fin : ∀ z : Int, z = drawRaw ns k → Q (.int (z % m)) H := fun z e => q _ (Int.emod_nonneg _ (by omega)) (Int.emod_lt_of_pos _ hm) (by unfold drawF; rw [e])
    refine ⟨_, (pss_cons (ps_if (pt_cmpR op_lt (pv 1) (pe_callB call_len_seq (by rfl) T.len b_len (pa_cons (pv 0) pa_nil)) (nomark _)) (pss_one (ps_ret (pe_op op_mod (pe_ix (k_ixl K) (pv 0) (pv 1) (fun _ _ => rfl)) (pv 2)))) pss_nil)
      (pss_cons (ps_set (i := 3) sc_l_draw.nd rfl (Or.inl rfl) (pe_op op_add (pe_op op_mul (pe_op op_mul (pv 1) (pv 1)) pe_int) pe_int))
      (pss_cons (ps_if (pt_cmpR op_gt (pe_callB call_len_seq (by rfl) T.len b_len (pa_cons (pv 0) pa_nil)) pe_int (nomark _)) (pss_cons (ps_set (i := 4) sc_l_draw.nd rfl (Or.inl rfl) (pe_op op_mod (pe_ix (k_ixl K) (pv 0) (pe_op op_mod (pv 1) (pe_callB call_len_seq (by rfl) T.len b_len (pa_cons (pv 0) pa_nil))) (fun _ _ => rfl)) pe_int))
      (pss_one (ps_set (i := 3) sc_l_draw.nd rfl (Or.inl rfl) (pe_op op_add (pe_op op_mul (pv 4) (pe_op op_add pe_int (pe_op op_mul (pe_op op_mul pe_int (pv 1)) (pv 1)))) (pe_op op_mul (pv 1) pe_int))))) pss_nil)
      (pss_one (ps_ret (pe_op op_mod (pe_op op_mod (pe_op op_mul (pe_op op_mod (pv 3) pe_int) pe_int) pe_int) (pv 2))))))), ?_⟩
    refine ⟨_, rfl, _, rfl, l, _, rfl, .inl hS, _, _, rfl, rfl, _, rfl, ?_⟩
    rw [List.length_map]
    by_cases h : k < ns.length
    · rw [decide_eq_true (show (k : Int) < (ns.length : Int) by omega)]
      refine iteT ⟨_, rfl, _, rfl, l, _, _, _, rfl, rfl, hS, atI_nat (show (intL ns)[k]? = some (.int ns[k]) by rw [List.getElem?_map, List.getElem?_eq_getElem h]; rfl), _, rfl, _, _, rfl, rfl, hm, fin _ (by unfold drawRaw; rw [if_pos h, List.getD_eq_getElem?_getD, List.getElem?_eq_getElem h]; rfl)⟩
    · rw [decide_eq_false (show ¬ (k : Int) < (ns.length : Int) by omega)]
      refine iteF ?_
      have hkk : (k : Int) * k ≤ 100 * 100 := Int.mul_le_mul (by omega) (by omega) (by omega) (by omega)
      have hkk0 : (0 : Int) ≤ (k : Int) * k := Int.mul_nonneg (by omega) (by omega)
      refine ⟨_, rfl, _, rfl, _, _, rfl, rfl, cmulL (by omega) (by omega), _, _, rfl, rfl, cmulR (by omega) (by omega), _, _, rfl, rfl, ?_⟩
      refine ⟨_, rfl, l, _, rfl, .inl hS, _, _, rfl, rfl, _, rfl, ?_⟩
      rw [List.length_map]
      by_cases h0 : 0 < ns.length
      · rw [decide_eq_true (show (0 : Int) < (ns.length : Int) by omega)]
        have hi : k % ns.length < ns.length := Nat.mod_lt _ h0
        have e : ((k : Int) % (ns.length : Int)) = ((k % ns.length : Nat) : Int) := (Int.natCast_emod k ns.length).symm
        refine iteT ⟨_, rfl, _, rfl, _, rfl, l, _, rfl, .inl hS, _, _, rfl, rfl, by rw [List.length_map]; omega, l, _, _, _, rfl, rfl, hS, (by rw [List.length_map, e]; exact atI_nat (show (intL ns)[k % ns.length]? = some (.int ns[k % ns.length]) by rw [List.getElem?_map, List.getElem?_eq_getElem hi]; rfl)), ?_⟩
        refine ⟨_, _, rfl, rfl, by omega, ?_⟩
        refine ⟨_, rfl, _, rfl, _, _, rfl, rfl, cmulL (by omega) (by omega), _, rfl, _, _, rfl, rfl, cmulR (by omega) (by omega), _, _, rfl, rfl, _, _, rfl, rfl, cmulL (by omega) (by omega), _, rfl, _, _, rfl, rfl, cmulR (by omega) (by omega), _, _, rfl, rfl, ?_⟩
        exact ⟨_, rfl, _, _, rfl, rfl, by omega, _, _, rfl, rfl, cmulR (by omega) (by omega), _, _, rfl, rfl, by omega, _, rfl, _, _, rfl, rfl, hm, fin _ (by unfold drawRaw; rw [if_neg h, if_pos h0, List.getD_eq_getElem?_getD, List.getElem?_eq_getElem hi]; rfl)⟩
      · rw [decide_eq_false (show ¬ (0 : Int) < (ns.length : Int) by omega)]
        refine iteF ?_
        exact ⟨_, rfl, _, _, rfl, rfl, by omega, _, _, rfl, rfl, cmulR (by omega) (by omega), _, _, rfl, rfl, by omega, _, rfl, _, _, rfl, rfl, hm, fin _ (by unfold drawRaw; rw [if_neg h, if_neg h0])⟩
/-! _law_digits -/
def spDigits : Sp := fun vs H Q _ => ∃ (n by_ : Int) (many : Nat), vs = [.int n, .int by_, .int many] ∧ 0 < by_ ∧ by_ ≤ 1000000 ∧ many ≤ 3 ∧ ∀ (H' : Hp) (D : Addr) (ds : List Int), Same H H' → H' D = some (.lst (intL ds)) → ds.length = many → (∀ d ∈ ds, 0 ≤ d ∧ d < by_) → Q (.ref D) H'
theorem ok_l_digits {f : Addr} {fd : FuncData} (F : Fun K "_law_digits" "_law_digits" s_l_digits f fd) (T : Txt K mg C) : FnOk P w K mg base CX0 1 f fd ["_law_number_here", "_law_by", "_law_many"] spDigits := by
  refine F.ok sc_l_digits (fun vs H Q E h => ?_) (fun cdv A outer s H vs Q E hr h => ?_)
  · obtain ⟨n, b, many, rfl, _⟩ := h
    rfl
  · obtain ⟨n, b, many, rfl, hb, hb2, hm, q⟩ := h
    refine ⟨_, (pss_cons (ps_set (i := 3) sc_l_digits.nd rfl (Or.inl rfl) (pe_lst pa_nil))
      (pss_cons (ps_for PassesOwn.never rfl (pi_range1 rfl T.range (pa_cons (pv 2) pa_nil)) (pg_name (i := 4) sc_l_digits.nd rfl (Or.inl rfl)) (pss_cons (ps_expr (pe_bm PySem.F.plainAttrs_list PySem.F.slot_list_append PySem.F.type_list_append mt_append (pv 3) (pa_cons (pe_op op_mod (pv 0) (pv 1)) pa_nil)))
      (pss_one (ps_set (i := 0) sc_l_digits.nd rfl (Or.inl rfl) (pe_op op_fdiv (pv 0) (pv 1))))))
      (pss_one (ps_ret (pv 3))))), ?_⟩
    refine ⟨Nat.zero_le _, fun D nD => ?_⟩
    refine ⟨_, rfl, many, rfl, by omega, by omega, for_it (walk_range (lo := 0) (n := many)) (fun i σ H3 => ∃ (n : Int) (v4 : Option V) (ds : List Int), σ = [some (.int n), some (.int b), some (.int many), some (.ref D), v4] ∧ Same H H3 ∧ H3 D = some (.lst (intL ds)) ∧ ds.length = i ∧ ∀ d ∈ ds, 0 ≤ d ∧ d < b)
      ⟨n, none, [], rfl, same_upd nD, upd_same, rfl, fun d h => by simp at h⟩ (fun _ _ _ _ _ => trivial) ?_ ?_⟩
    · rintro i y σ H3 H4 hi ⟨n, v4, ds, rfl, s3, eD, hl, hd⟩ hy
      obtain ⟨rfl, rfl⟩ := rngY hy
      refine ⟨_, rfl, .inl ⟨rfl, _, SqL.of eD⟩, _, rfl, _, rfl, _, _, rfl, rfl, hb, D, _, _, rfl, rfl, eD, by rw [List.length_map]; exact small (by omega), ?_⟩
      refine ⟨_, rfl, _, rfl, _, _, rfl, rfl, cdiv hb hb2, ?_⟩
      have b4 : But D H4 (upd H4 D (.lst (intL ds ++ [.int (n % b)]))) := But.upd _ _ _
      refine ⟨_, _, ds ++ [n % b], rfl, Same.butNew s3 b4 nD, by rw [upd_same, intL_snoc], by rw [List.length_append, hl]; rfl, fun d hd' => ?_⟩
      rcases List.mem_append.mp hd' with hd' | hd'
      · exact hd d hd'
      · rw [List.mem_singleton.mp hd']
        exact ⟨Int.emod_nonneg _ (by omega), Int.emod_lt_of_pos _ hb⟩
    · rintro σ H3 ⟨n, v4, ds, rfl, s3, eD, hl, hd⟩
      exact ⟨_, rfl, q H3 D ds s3 eD hl hd⟩
theorem pickL {xs : List Int} {z : Int} (h0 : 0 ≤ z) (h1 : z < (xs.length : Int)) : ∃ x, atI (intL xs) z = some (.int x) ∧ x ∈ xs := by
  obtain ⟨n, rfl⟩ : ∃ n : Nat, z = (n : Int) := ⟨z.toNat, (Int.toNat_of_nonneg h0).symm⟩
  have hn : n < xs.length := by omega
  exact ⟨xs[n], atI_nat (by rw [List.getElem?_map, List.getElem?_eq_getElem hn]; rfl), List.getElem_mem hn⟩
theorem nI_toNat {x : Int} (h : 0 ≤ x) : nI x.toNat = .int x := by
  show V.int ((x.toNat : Nat) : Int) = .int x
  rw [Int.toNat_of_nonneg h]
/-! _law_sizes -/
def spLSizes (K : PySem.W.Frag) : Sp := fun vs H Q _ => ∃ (l : Addr) (ns : List Int), vs = [.ref l, .int 36, .bl false] ∧ SqL K H l (intL ns) ∧ ns.length ≤ 63 ∧ ∀ (H' : Hp) (D : Addr) (sz : List Nat), Same H H' → H' D = some (.lst (natL sz)) → SzOk sz → Q (.ref D) H'
theorem ok_l_sizes {f : Addr} {fd : FuncData} (F : Fun K "_law_sizes" "_law_sizes" s_l_sizes f fd) (T : Txt K mg C) (G_l_draw : Cal P w K mg base "_law_draw" 1 ["_law_script", "_law_k", "_law_many"] (spDraw K)) (G_l_digits : Cal P w K mg base "_law_digits" 1 ["_law_number_here", "_law_by", "_law_many"] spDigits) :
    FnOk P w K mg base CX0 2 f fd ["_law_script", "_law_most_here", "_law_wide"] (spLSizes K) := by
  refine F.ok sc_l_sizes (fun vs H Q E h => ?_) (fun cdv A outer s H vs Q E hr h => ?_)
  · obtain ⟨l, ns, rfl, _⟩ := h
    rfl
  · obtain ⟨l, ns, rfl, hS, hns, q⟩ := h
    refine ⟨_, (pss_cons (ps_set (i := 3) sc_l_sizes.nd rfl (Or.inl rfl) (pe_ix (k_ixl K) (pe_lst (pa_cons pe_int (pa_cons pe_int (pa_cons pe_int (pa_cons pe_int (pa_cons pe_int (pa_cons pe_int (pa_cons pe_int (pa_cons pe_int pa_nil))))))))) (pe_cal G_l_draw hr (by rfl) (pa_cons (pv 0) (pa_cons pe_int (pa_cons pe_int pa_nil)))) (fun _ _ => rfl)))
      (pss_cons (ps_set (i := 4) sc_l_sizes.nd rfl (Or.inl rfl) (pe_lst (pa_cons pe_int (pa_cons pe_int (pa_cons pe_int (pa_cons pe_int (pa_cons pe_int (pa_cons pe_int (pa_cons pe_int (pa_cons pe_int pa_nil))))))))))
      (pss_cons (ps_if (PW.pt (pw_and (pt_val (pv 2)) (pw_and1 (pt_cmpR op_eq (pe_cal G_l_draw hr (by rfl) (pa_cons (pv 0) (pa_cons pe_int (pa_cons pe_int pa_nil)))) pe_int (nomark _))))) (pss_cons (ps_set (i := 3) sc_l_sizes.nd rfl (Or.inl rfl) (pe_op op_add pe_int (pe_cal G_l_draw hr (by rfl) (pa_cons (pv 0) (pa_cons pe_int (pa_cons pe_int pa_nil))))))
      (pss_one (ps_set (i := 4) sc_l_sizes.nd rfl (Or.inl rfl) (pe_lst (pa_cons pe_int (pa_cons pe_int (pa_cons pe_int (pa_cons pe_int (pa_cons pe_int (pa_cons pe_int (pa_cons pe_int (pa_cons pe_int pa_nil)))))))))))) pss_nil)
      (pss_cons (ps_set (i := 5) sc_l_sizes.nd rfl (Or.inl rfl) (pe_lst pa_nil))
      (pss_cons (ps_set (i := 6) sc_l_sizes.nd rfl (Or.inl rfl) pe_int)
      (pss_cons (ps_for PassesOwn.never rfl (k_list K (pe_cal G_l_digits hr (by rfl) (pa_cons (pe_cal G_l_draw hr (by rfl) (pa_cons (pv 0) (pa_cons pe_int (pa_cons pe_int pa_nil)))) (pa_cons pe_int (pa_cons (pv 3) pa_nil))))) (pg_name (i := 7) sc_l_sizes.nd rfl (Or.inl rfl)) (pss_cons (ps_set (i := 8) sc_l_sizes.nd rfl (Or.inl rfl) (pe_ix (k_ixl K) (pv 4) (pv 7) (fun _ _ => rfl)))
      (pss_cons (ps_if (pt_cmpR op_gt (pe_op op_mul (pv 6) (pv 8)) (pv 1) (nomark _)) (pss_one (ps_set (i := 8) sc_l_sizes.nd rfl (Or.inl rfl) pe_int)) pss_nil)
      (pss_cons (ps_set (i := 6) sc_l_sizes.nd rfl (Or.inl rfl) (pe_op op_mul (pv 6) (pv 8)))
      (pss_one (ps_expr (pe_bm PySem.F.plainAttrs_list PySem.F.slot_list_append PySem.F.type_list_append mt_append (pv 5) (pa_cons (pv 8) pa_nil))))))))
      (pss_one (ps_ret (pv 5))))))))), ?_⟩
    refine ⟨by show 8 ≤ sizeLine; decide, fun t nt => ?_⟩
    have st := same_upd (o := .lst [.int 0, .int 1, .int 2, .int 3, .int 2, .int 3, .int 3, .int 2]) nt
    refine ⟨_, rfl, l, ns, 0, 8, rfl, st.seq hS, hns, by omega, by omega, fun z hz0 hz8 _ => ?_⟩
    obtain ⟨x, ex, hx⟩ := pickL (xs := [0, 1, 2, 3, 2, 3, 3, 2]) hz0 (by show z < 8; exact hz8)
    have hx3 := (show ∀ x : Int, x ∈ ([0, 1, 2, 3, 2, 3, 3, 2] : List Int) → 0 ≤ x ∧ x ≤ 3 by decide) x hx
    refine ⟨t, _, _, _, rfl, rfl, SqL.of (show _ = some (.lst (intL [0, 1, 2, 3, 2, 3, 3, 2])) from upd_same), ex, ?_⟩
    refine ⟨by show 8 ≤ sizeLine; decide, fun u nu => ?_⟩
    have su := same_upd (o := .lst [.int 2, .int 3, .int 4, .int 2, .int 5, .int 1, .int 3, .int 6]) nu
    have s2 := st.trans su
    have eu : upd (upd H t (.lst [.int 0, .int 1, .int 2, .int 3, .int 2, .int 3, .int 3, .int 2])) u (.lst [.int 2, .int 3, .int 4, .int 2, .int 5, .int 1, .int 3, .int 6]) u = some (.lst (intL [2, 3, 4, 2, 5, 1, 3, 6])) := upd_same
    generalize upd (upd H t (.lst [.int 0, .int 1, .int 2, .int 3, .int 2, .int 3, .int 3, .int 2])) u (.lst [.int 2, .int 3, .int 4, .int 2, .int 5, .int 1, .int 3, .int 6]) = H2 at s2 eu ⊢
    refine ⟨_, rfl, false, rfl, iteF (iteF ?_)⟩
    refine ⟨Nat.zero_le _, fun D nD => ?_⟩
    have sD : Same H2 (upd H2 D (.lst [])) := same_upd nD
    have nDH : H D = none := Same.free s2 nD
    refine ⟨_, rfl, l, ns, 2, 16777216, rfl, (s2.trans sD).seq hS, hns, by omega, by omega, fun y hy0 hy1 _ => ?_⟩
    obtain ⟨n, rfl⟩ : ∃ n : Nat, x = (n : Int) := ⟨x.toNat, (Int.toNat_of_nonneg hx3.1).symm⟩
    refine ⟨_, rfl, y, 8, n, rfl, by omega, by omega, by omega, fun H4 G ds s4 eG hG hds => ?_⟩
    have s24 : Same H2 H4 := sD.trans s4
    have s04 : Same H H4 := s2.trans s24
    refine ⟨G, rfl, ⟨_, SqL.of eG⟩, for_list (K := K) (a := G) (xs := intL ds) (fun i σ H5 => ∃ (c : Int) (v7 v8 : Option V) (sz : List Nat), σ = [some (.ref l), some (.int 36), some (.bl false), some (.int n), some (.ref u), some (.ref D), some (.int c), v7, v8] ∧ Same H H5 ∧ H5 G = some (.lst (intL ds)) ∧ H5 u = some (.lst (intL [2, 3, 4, 2, 5, 1, 3, 6])) ∧ H5 D = some (.lst (natL sz)) ∧ sz.length = i ∧ ∀ s ∈ sz, 1 ≤ s ∧ s ≤ 6)
      ⟨1, none, none, [], rfl, s04, eG, s24 _ _ eu, s4 _ _ upd_same, rfl, fun d h => by simp at h⟩ (fun i σ H5 _ ⟨_, _, _, _, _, _, e5, _⟩ => SqL.of e5) ?_ ?_⟩
    · rintro i y σ H5 hi ⟨c, v7, v8, sz0, rfl, s5, e5, eu5, eD, hl, hb⟩
      obtain ⟨d, hd, rfl⟩ := intL_get hi
      have hdb := hds d (List.mem_of_getElem? hd)
      have hil : i < ds.length := (List.getElem?_eq_some_iff.mp hd).1
      obtain ⟨x, ex, hx⟩ := pickL (xs := [2, 3, 4, 2, 5, 1, 3, 6]) hdb.1 (by show d < 8; omega)
      have hx6 := (show ∀ x : Int, x ∈ ([2, 3, 4, 2, 5, 1, 3, 6] : List Int) → 1 ≤ x ∧ x ≤ 6 by decide) x hx
      have GD : G ≠ D := fun e => by
        rw [e] at e5
        rw [e5] at eD
        injection eD with eD
        injection eD with eD
        have k := congrArg List.length eD
        rw [List.length_map, List.length_map] at k
        omega
      have UD : u ≠ D := ne_of_none eu nD
      refine ⟨_, rfl, _, rfl, u, _, _, _, rfl, rfl, SqL.of eu5, ex, ?_⟩
      refine ⟨_, rfl, _, rfl, _, _, rfl, rfl, cmulR (by omega) (by omega), _, rfl, _, _, rfl, rfl, _, rfl, ?_⟩
      -- what is appended
      have fin : ∀ x : Int, 1 ≤ x ∧ x ≤ 6 → ∀ c' : Int, ∃ (c : Int) (v7 v8 : Option V) (sz : List Nat), ([some (.ref l), some (.int 36), some (.bl false), some (.int n), some (.ref u), some (.ref D), some (.int c'), some (.int d), some (.int x)] : L2.St) = [some (.ref l), some (.int 36), some (.bl false), some (.int n), some (.ref u), some (.ref D), some (.int c), v7, v8] ∧
          Same H (upd H5 D (.lst (natL sz0 ++ [.int x]))) ∧ (upd H5 D (.lst (natL sz0 ++ [.int x]))) G = some (.lst (intL ds)) ∧ (upd H5 D (.lst (natL sz0 ++ [.int x]))) u = some (.lst (intL [2, 3, 4, 2, 5, 1, 3, 6])) ∧ (upd H5 D (.lst (natL sz0 ++ [.int x]))) D = some (.lst (natL sz)) ∧ sz.length = i + 1 ∧ ∀ s ∈ sz, 1 ≤ s ∧ s ≤ 6 := fun x hx c' => by
        have b6 : But D H5 (upd H5 D (.lst (natL sz0 ++ [.int x]))) := But.upd _ _ _
        refine ⟨_, _, _, sz0 ++ [x.toNat], rfl, Same.butNew s5 b6 nDH, b6 _ _ e5 GD, b6 _ _ eu5 UD, by rw [upd_same, natL_snoc, nI_toNat (by omega)], by rw [List.length_append, hl]; rfl, fun s hs => ?_⟩
        rcases List.mem_append.mp hs with hs | hs
        · exact hb s hs
        · rw [List.mem_singleton.mp hs]
          omega
      have hsz : (natL sz0).length < sizeLine := by rw [List.length_map]; exact small (by omega)
      refine ite2 (fun _ => ?_) fun _ => ?_
      · exact ⟨_, rfl, _, rfl, _, _, rfl, rfl, cmulR (by omega) (by omega), _, rfl, .inl ⟨rfl, _, SqL.of eD⟩, _, rfl, D, _, _, rfl, rfl, eD, hsz, fin 1 (by omega) _⟩
      · exact ⟨_, rfl, _, rfl, _, _, rfl, rfl, cmulR (by omega) (by omega), _, rfl, .inl ⟨rfl, _, SqL.of eD⟩, _, rfl, D, _, _, rfl, rfl, eD, hsz, fin x hx6 _⟩
    · rintro σ H5 ⟨c, v7, v8, sz, rfl, s5, e5, eu5, eD, hl, hb⟩
      rw [List.length_map, hG] at hl
      exact ⟨_, rfl, q H5 D sz s5 eD ⟨by omega, hb⟩⟩
end
end PH

/-! The walks: what the law draws, second part. -/
namespace PH
open PySem PySem.Spec PyProof.Rows L2
theorem rep_zero (n : Nat) : (List.replicate n [V.int 0]).flatten = intL (List.replicate n 0) := by
  induction n with
  | zero => rfl
  | succ n ih =>
    rw [List.replicate_succ, List.flatten_cons, ih, List.replicate_succ]
    rfl
theorem rg_nat (n : Nat) : rgV 0 n = natL (List.range n) := by
  unfold rgV natL nI
  rw [Int.sub_zero, Int.toNat_natCast]
  refine List.map_congr_left fun i _ => ?_
  rw [Int.zero_add]
theorem ix_nat {n j : Nat} (h : j < n) : ixN n (j : Int) = some j := by
  unfold ixN
  rw [if_pos (by omega), if_pos (by omega), Int.toNat_natCast]
theorem len_natL (l : List Nat) : (natL l).length = l.length := List.length_map _
theorem len_intL (l : List Int) : (intL l).length = l.length := List.length_map _
theorem intL_set (l : List Int) (j : Nat) (x : Int) : (intL l).set j (.int x) = intL (l.set j x) := (List.map_set).symm
theorem natL_eraseIdx : ∀ (l : List Nat) (j : Nat), (natL l).eraseIdx j = natL (l.eraseIdx j)
  | [], _ => rfl
  | _ :: _, 0 => rfl
  | x :: l, j + 1 => congrArg (nI x :: ·) (natL_eraseIdx l j)
theorem natL_at {l : List Nat} {j : Nat} (h : j < l.length) : (natL l)[j]? = some (nI l[j]) := by
  rw [List.getElem?_map, List.getElem?_eq_getElem h]; rfl
theorem intL_at {l : List Int} {j : Nat} (h : j < l.length) : (intL l)[j]? = some (.int l[j]) := by
  rw [List.getElem?_map, List.getElem?_eq_getElem h]; rfl
section
variable {P : Program} {w : World} {K : PySem.W.Frag} {mg : Str → Option Value} {base : Heap} {C : Addr}
def spOnce (K : PySem.W.Frag) : Sp := fun vs H Q _ => ∃ (l a : Addr) (ns : List Int) (sz : List Nat), vs = [.ref l, .ref a] ∧ SqL K H l (intL ns) ∧ ns.length ≤ 63 ∧ SqL K H a (natL sz) ∧ SzOk sz ∧
  ∀ (H' : Hp) (D : Addr) (ps : List Int) (unit : Int), Same H H' → H' D = some (.lst (intL ps)) → OInv sz [] ps unit → Q (.ref D) H'
def OnceW (Hb : Hp) (l a G : Addr) (ds : List Int) (sz : List Nat) (m : Nat) (σ : L2.St) (H : Hp) : Prop := ∃ (unit turn : Int) (pl lf : Addr) (ps : List Int) (left : List Nat) (v7 : Option V),
  σ = [some (.ref l), some (.ref a), some (.int unit), some (.int turn), some (.ref G), some (.ref pl), some (.ref lf), v7] ∧ Same Hb H ∧ H G = some (.lst (intL ds)) ∧ H pl = some (.lst (intL ps)) ∧ H lf = some (.lst (natL left)) ∧ pl ≠ lf ∧ G ≠ pl ∧ G ≠ lf ∧ Hb pl = none ∧ Hb lf = none ∧ OInv sz left ps unit ∧ left.length = m
theorem ok_l_once {f : Addr} {fd : FuncData} (F : Fun K "_law_once" "_law_once" s_l_once f fd) (T : Txt K mg C) (G_l_draw : Cal P w K mg base "_law_draw" 1 ["_law_script", "_law_k", "_law_many"] (spDraw K)) (G_l_digits : Cal P w K mg base "_law_digits" 1 ["_law_number_here", "_law_by", "_law_many"] spDigits) :
    FnOk P w K mg base CX0 2 f fd ["_law_script", "_law_sizes_here"] (spOnce K) := by
  refine F.ok sc_l_once (fun vs H Q E h => ?_) (fun cdv A outer s H vs Q E hr h => ?_)
  · obtain ⟨l, a, ns, sz, rfl, _⟩ := h
    rfl
  · obtain ⟨l, a, ns, sz, rfl, hS, hns, hA, hz, q⟩ := h
    have hz3 := hz.len
    refine ⟨_, (pss_cons (ps_set (i := 2) sc_l_once.nd rfl (Or.inl rfl) (pe_op op_add pe_int (pe_cal G_l_draw hr (by rfl) (pa_cons (pv 0) (pa_cons pe_int (pa_cons pe_int pa_nil))))))
      (pss_cons (ps_set (i := 3) sc_l_once.nd rfl (Or.inl rfl) (pe_cal G_l_draw hr (by rfl) (pa_cons (pv 0) (pa_cons pe_int (pa_cons pe_int pa_nil)))))
      (pss_cons (ps_set (i := 4) sc_l_once.nd rfl (Or.inl rfl) (pe_cal G_l_digits hr (by rfl) (pa_cons (pe_cal G_l_draw hr (by rfl) (pa_cons (pv 0) (pa_cons pe_int (pa_cons pe_int pa_nil)))) (pa_cons pe_int (pa_cons (pe_callB call_len_seq (by rfl) T.len b_len (pa_cons (pv 1) pa_nil)) pa_nil)))))
      (pss_cons (ps_set (i := 5) sc_l_once.nd rfl (Or.inl rfl) (pe_op op_rep (pe_lst (pa_cons pe_int pa_nil)) (pe_callB call_len_seq (by rfl) T.len b_len (pa_cons (pv 1) pa_nil))))
      (pss_cons (ps_set (i := 6) sc_l_once.nd rfl (Or.inl rfl) (pe_listRg rfl (by rfl) T.list (prg_1 (by rfl) T.range (pe_callB call_len_seq (by rfl) T.len b_len (pa_cons (pv 1) pa_nil)))))
      (pss_cons (ps_while PassesOwn.never (pt_cmpR (op_neD hr.units) (pv 6) (pe_lst pa_nil) (nomark _)) (pss_cons (ps_set (i := 7) sc_l_once.nd rfl (Or.inl rfl) (pe_bm PySem.F.plainAttrs_list PySem.F.slot_list_pop PySem.F.type_list_pop mt_popAt (pv 6) (pa_cons (pe_op op_mod (pv 3) (pe_callB call_len_seq (by rfl) T.len b_len (pa_cons (pv 6) pa_nil))) pa_nil)))
      (pss_cons (ps_set (i := 3) sc_l_once.nd rfl (Or.inl rfl) (pe_op op_fdiv (pv 3) (pe_op op_add (pe_callB call_len_seq (by rfl) T.len b_len (pa_cons (pv 6) pa_nil)) pe_int)))
      (pss_cons (ps_asg (pe_op op_mul (pv 2) (pe_ix (k_ixl K) (pe_lst (pa_cons pe_int (pa_cons (pe_un un_neg pe_int) (pa_cons pe_int (pa_cons (pe_un un_neg pe_int) pa_nil))))) (pe_ix (k_ixl K) (pv 4) (pv 7) (fun _ _ => rfl)) (fun _ _ => rfl))) (pg_sub (pv 5) (pv 7) set_list))
      (pss_one (ps_set (i := 2) sc_l_once.nd rfl (Or.inl rfl) (pe_op op_add (pe_op op_mul (pv 2) (pe_ix (k_ixl K) (pv 1) (pv 7) (fun _ _ => rfl))) (pe_op op_fdiv (pe_ix (k_ixl K) (pv 4) (pv 7) (fun _ _ => rfl)) pe_int))))))))
      (pss_one (ps_ret (pv 5))))))))), ?_⟩
    refine ⟨_, rfl, l, ns, 3, 2, rfl, hS, hns, by omega, by omega, fun u hu0 hu1 _ => ⟨_, _, rfl, rfl, ?_⟩⟩
    refine ⟨_, rfl, l, ns, 4, 40320, rfl, hS, hns, by omega, by omega, fun turn ht0 ht1 _ => ?_⟩
    refine ⟨_, rfl, l, ns, 5, 65536, rfl, hS, hns, by omega, by omega, fun y hy0 hy1 _ => ?_⟩
    refine ⟨_, rfl, a, _, rfl, .inl hA, ?_⟩
    rw [len_natL]
    refine ⟨y, 4, sz.length, rfl, by omega, by omega, hz3, fun H1 G ds s1 eG hG hds => ?_⟩
    -- paces
    refine ⟨by show 1 ≤ sizeLine; decide, fun z nz => ?_⟩
    have sz1 : Same H1 (upd H1 z (.lst [.int 0])) := same_upd nz
    refine ⟨_, rfl, a, _, rfl, .inl ((s1.trans sz1).seq hA), ?_⟩
    rw [len_natL]
    refine ⟨z, _, _, rfl, rfl, upd_same, by omega, by omega, by rw [Int.toNat_natCast]; show 1 * sz.length ≤ sizeLine; exact Nat.le_of_lt (small (by omega)), fun pl npl => ?_⟩
    rw [Int.toNat_natCast, rep_zero]
    have s2 : Same H1 (upd (upd H1 z (.lst [.int 0])) pl (.lst (intL (List.replicate sz.length 0)))) := sz1.trans (same_upd npl)
    have ep2 : upd (upd H1 z (.lst [.int 0])) pl (.lst (intL (List.replicate sz.length 0))) pl = some (.lst (intL (List.replicate sz.length 0))) := upd_same
    have npl1 : H1 pl = none := Same.free sz1 npl
    generalize upd (upd H1 z (.lst [.int 0])) pl (.lst (intL (List.replicate sz.length 0))) = H2 at s2 ep2 ⊢
    -- left
    refine ⟨_, rfl, a, _, rfl, .inl ((s1.trans s2).seq hA), ?_⟩
    rw [len_natL]
    refine ⟨_, rfl, .of_le (by omega) (by omega) (by omega) (by omega), fun lf nlf => ?_⟩
    rw [rg_nat]
    have s3 : Same H2 (upd H2 lf (.lst (natL (List.range sz.length)))) := same_upd nlf
    have s13 := s2.trans s3
    refine ⟨OnceW H l a G ds sz, ⟨_, _, _, pl, lf, _, _, none, rfl, s1.trans s13, s13 _ _ eG, s3 _ _ ep2, upd_same, ne_of_none ep2 nlf, ne_of_none eG npl1, ne_of_none (s2 _ _ eG) nlf, Same.free s1 npl1, Same.free (s1.trans s2) nlf, OInv.start (by omega) (by omega), rfl⟩, ?_⟩
    rintro m σ H4 ⟨unit, turn, pl, lf, ps, left, v7, rfl, s4, eG4, ep4, el4, npf, ngp, ngf, npH, nlH, I, rfl⟩
    refine ⟨_, rfl, Nat.zero_le _, fun z nz => ?_⟩
    have s45 : Same H4 (upd H4 z (.lst [])) := same_upd nz
    have ez5 : upd H4 z (.lst []) z = some (.lst []) := upd_same
    have el5 := s45 _ _ el4
    have ep5 := s45 _ _ ep4
    have eG5 := s45 _ _ eG4
    have s5 := s4.trans s45
    generalize upd H4 z (.lst []) = H5 at s45 ez5 el5 ep5 eG5 s5 ⊢
    have el5' := el5
    rw [nats_ints] at el5'
    refine ⟨_, _, dp_is (SqL.of el5'), dp_nil ez5, (gd_is _).shaped (by decide), gd_nil.shaped (by decide), _, rfl, ?_⟩
    unfold dIs
    rw [eqv_nil]
    by_cases hne : left = []
    · subst hne
      exact iteF ⟨_, rfl, q _ pl ps unit s5 ep5 I⟩
    · have hemp : (((left.map fun n : Nat => (n : Int)).map PyData.int)).isEmpty = false := by
        cases left with
        | nil => exact absurd rfl hne
        | cons x r => rfl
      rw [hemp]
      refine iteT ⟨fun σ' H' => ∃ m', m' < left.length ∧ OnceW H l a G ds sz m' σ' H', fun _ _ h => h, ?_⟩
      have hl0 : 0 < left.length := List.length_pos_iff.mpr hne
      have hl3 : left.length ≤ 3 := Nat.le_trans I.ll hz3
      refine ⟨_, rfl, .inl ⟨rfl, _, SqL.of el5⟩, _, rfl, _, rfl, lf, _, rfl, .inl (SqL.of el5), _, _, rfl, rfl, by rw [len_natL]; omega, ?_⟩
      rw [len_natL]
      have hj0 := Int.emod_nonneg turn (show (left.length : Int) ≠ 0 by omega)
      have hj1 := Int.emod_lt_of_pos turn (show (0 : Int) < (left.length : Int) by omega)
      obtain ⟨j, hj⟩ : ∃ j : Nat, turn % (left.length : Int) = (j : Int) := ⟨_, (Int.toNat_of_nonneg hj0).symm⟩
      have hjl : j < left.length := by omega
      have hax : left[j] < sz.length := I.lt _ (List.getElem_mem hjl)
      have hjx : left[j]? = some left[j] := List.getElem?_eq_getElem hjl
      generalize left[j] = ax at hax hjx
      refine ⟨lf, _, turn % (left.length : Int), j, nI ax, rfl, rfl, el5, by omega, by omega, by rw [len_natL, hj]; exact (ixN_seq (ix_nat hjl)).1, by rw [List.getElem?_map, hjx]; rfl, ?_⟩
      rw [natL_eraseIdx]
      have b6 : But lf H5 (upd H5 lf (.lst (natL (left.eraseIdx j)))) := But.upd _ _ _
      have el6 : upd H5 lf (.lst (natL (left.eraseIdx j))) lf = some (.lst (natL (left.eraseIdx j))) := upd_same
      generalize upd H5 lf (.lst (natL (left.eraseIdx j))) = H6 at b6 el6 ⊢
      have s6 : Same H H6 := Same.butNew s5 b6 nlH
      have ep6 := b6 _ _ ep5 npf
      have eG6 := b6 _ _ eG5 ngf
      have hle : (left.eraseIdx j).length ≤ 3 := by
        have := (eraseIdx_facts I.nd hjx).2.2
        omega
      refine ⟨_, rfl, _, rfl, lf, _, rfl, .inl (SqL.of el6), _, _, rfl, rfl, _, _, rfl, rfl, cdiv (by rw [len_natL]; omega) (by rw [len_natL]; omega), ?_⟩
      -- paces[axis] = ..
      refine ⟨_, rfl, _, rfl, _, rfl, by show 4 ≤ sizeLine; decide, fun z2 nz2 => ?_⟩
      have s67 : Same H6 (upd H6 z2 (.lst [.int 1, .int (-1), .int 1, .int (-1)])) := same_upd nz2
      have ez7 : upd H6 z2 (.lst [.int 1, .int (-1), .int 1, .int (-1)]) z2 = some (.lst (intL [1, -1, 1, -1])) := upd_same
      have eG7 := s67 _ _ eG6
      have ep7 := s67 _ _ ep6
      have el7 := s67 _ _ el6
      have s7 := s6.trans s67
      have hd : ax < ds.length := by omega
      have hdb := hds ds[ax] (List.getElem_mem hd)
      obtain ⟨x, ex, hx⟩ := pickL (xs := [1, -1, 1, -1]) hdb.1 (by show ds[ax] < 4; exact hdb.2)
      have hx1 := (show ∀ x : Int, x ∈ ([1, -1, 1, -1] : List Int) → x = 1 ∨ x = -1 by decide) x hx
      refine ⟨_, rfl, _, rfl, G, _, _, _, rfl, rfl, SqL.of eG7, atI_nat (intL_at hd), z2, _, _, _, rfl, rfl, SqL.of ez7, ex, _, _, rfl, rfl, cmulR (by omega) (by omega), ?_⟩
      refine ⟨_, rfl, _, rfl, pl, _, _, ax, rfl, rfl, ep7, ix_nat (by rw [len_intL, I.len]; exact hax), ?_⟩
      rw [intL_set]
      have e8 : ∀ y : Int, upd (upd H6 z2 (.lst [.int 1, .int (-1), .int 1, .int (-1)])) pl (.lst (intL (ps.set ax y))) pl = some (.lst (intL (ps.set ax y))) := fun y => upd_same
      have b8 : ∀ y : Int, But pl (upd H6 z2 (.lst [.int 1, .int (-1), .int 1, .int (-1)])) (upd (upd H6 z2 (.lst [.int 1, .int (-1), .int 1, .int (-1)])) pl (.lst (intL (ps.set ax y)))) := fun y => But.upd _ _ _
      have s8 : ∀ y : Int, Same H (upd (upd H6 z2 (.lst [.int 1, .int (-1), .int 1, .int (-1)])) pl (.lst (intL (ps.set ax y)))) := fun y => Same.butNew s7 (b8 y) npH
      have hsa := hz.bd _ (List.getElem_mem hax)
      refine ⟨_, rfl, _, rfl, _, rfl, a, _, _, _, rfl, rfl, (s8 _).seq hA, atI_nat (natL_at hax), _, _, rfl, rfl, cmulR (by omega) (by omega), _, rfl, _, rfl, G, _, _, _, rfl, rfl, SqL.of (b8 _ _ _ eG7 ngp), atI_nat (intL_at hd), _, _, rfl, rfl, cdiv (by omega) (by omega), _, _, rfl, rfl, ?_⟩
      have esz : sz.getD ax 0 = sz[ax] := by rw [List.getD_eq_getElem?_getD, List.getElem?_eq_getElem hax]; rfl
      have st := I.step (e := ds[ax] / 2) hz hjx hx1 ⟨by omega, by omega⟩
      rw [esz] at st
      refine ⟨_, by have := (eraseIdx_facts I.nd hjx).2.2; omega, _, _, pl, lf, _, _, _, rfl, s8 _, b8 _ _ _ eG7 ngp, e8 _, b8 _ _ _ el7 (Ne.symm npf), npf, ngp, ngf, npH, nlH, st, rfl⟩
end
end PH

/-! The walks: what the law draws, third part. -/
namespace PH
open PySem PySem.Spec PyProof.Rows L2
theorem cut_take {xs : List V} {k : Nat} (h : k ≤ xs.length) : cutV xs none (some (k : Int)) = xs.take k := by
  unfold cutV
  rw [HT.sIx_none, HT.sIx_nat, List.drop_zero, Nat.sub_zero, Nat.min_eq_left h]
theorem cut_drop {xs : List V} {k : Nat} (h : k ≤ xs.length) : cutV xs (some (k : Int)) none = xs.drop k := by
  unfold cutV
  rw [HT.sIx_none, HT.sIx_nat, Nat.min_eq_left h, List.take_of_length_le (by rw [List.length_drop]; omega)]
theorem intL_take (l : List Int) (k : Nat) : (intL l).take k = intL (l.take k) := (List.map_take).symm
theorem intL_drop (l : List Int) (k : Nat) : (intL l).drop k = intL (l.drop k) := (List.map_drop).symm
/-- one item of a list set: l[:i] + [x] + l[i + 1:] -/
theorem set_at {K : PySem.W.Frag} {σ : L2.St} {H : Hp} {Q : VK} {a : Addr} {ps : List Int} {ax : Nat} {te : TE} (h1 : σ[1]? = some (some (.ref a))) (h4 : σ[4]? = some (some (.int ax))) (ea : H a = some (.lst (intL ps))) (hax : ax < ps.length) (hp3 : ps.length ≤ 3) (hpb : ∀ c ∈ ps, c.natAbs ≤ 81)
    (hte : ∀ (H2 : Hp) (R : VK), Same H H2 → (∀ (x : Int) (H3 : Hp), Same H2 H3 → x.natAbs ≤ 81 → R (.int x) H3) → te σ H2 R)
    (q : ∀ (H' : Hp) (D : Addr) (qs : List Int), Same H H' → H' D = some (.lst (intL qs)) → qs.length = ps.length → (∀ c ∈ qs, c.natAbs ≤ 81) → Q (.ref D) H') :
    tOp rCat (tOp rCat (tSl (rSlL K) (tVar 1) tNoPart (tPart (tVar 4))) (tLst (tCons te tNil))) (tSl (rSlL K) (tVar 1) (tPart (tOp (rI0 fun i j => V.int (i + j)) (tVar 4) (tC (V.int 1)))) tNoPart) σ H Q := by
  refine ⟨_, h1, _, h4, ax, rfl, a, _, rfl, SqL.of ea, fun u nu => ?_⟩
  rw [cut_take (by rw [len_intL]; omega), intL_take]
  have su := same_upd (o := .lst (intL (ps.take ax))) nu
  refine hte _ _ su fun x H3 s3 hx => ⟨by show 1 ≤ sizeLine; decide, fun v nv => ?_⟩
  have sv := same_upd (o := .lst [.int x]) nv
  refine ⟨u, v, _, _, rfl, rfl, sv _ _ (s3 _ _ upd_same), upd_same, by rw [len_intL, List.length_take]; show _ + 1 ≤ _; exact Nat.le_of_lt (small (by omega)), fun t nt => ?_⟩
  rw [← intL_snoc]
  have st := same_upd (o := .lst (intL (ps.take ax ++ [x]))) nt
  have s4 := ((su.trans s3).trans sv).trans st
  refine ⟨_, h1, _, h4, _, _, rfl, rfl, ((ax + 1 : Nat) : Int), by rw [Int.natCast_add]; rfl, a, _, rfl, SqL.of (s4 _ _ ea), fun y ny => ?_⟩
  rw [cut_drop (by rw [len_intL]; omega), intL_drop]
  have sy := same_upd (o := .lst (intL (ps.drop (ax + 1)))) ny
  refine ⟨t, y, _, _, rfl, rfl, sy _ _ upd_same, upd_same, by rw [len_intL, len_intL, List.length_append, List.length_take, List.length_drop]; show _ + 1 + _ ≤ _; exact Nat.le_of_lt (small (by omega)), fun D nD => ?_⟩
  rw [← intL_append]
  refine q _ D _ ((s4.trans sy).trans (same_upd nD)) upd_same (by rw [List.length_append, List.length_append, List.length_take, List.length_drop]; show _ + 1 + _ = _; omega) fun z hz => ?_
  rcases List.mem_append.mp hz with hz | hz
  · rcases List.mem_append.mp hz with hz | hz
    · exact hpb z (List.mem_of_mem_take hz)
    · rw [List.mem_singleton.mp hz]; exact hx
  · exact hpb z (List.mem_of_mem_drop hz)
section
variable {P : Program} {w : World} {K : PySem.W.Frag} {mg : Str → Option Value} {base : Heap} {C : Addr}
def spOthers (K : PySem.W.Frag) : Sp := fun vs H Q _ => ∃ (l a : Addr) (ns ps : List Int), vs = [.ref l, .ref a] ∧ SqL K H l (intL ns) ∧ ns.length ≤ 63 ∧ H a = some (.lst (intL ps)) ∧ ps.length ≤ 3 ∧ (∀ c ∈ ps, c.natAbs ≤ 79) ∧
  ∀ (H' : Hp) (D : Addr) (qs : List Int), Same H H' → H' D = some (.lst (intL qs)) → qs.length = ps.length → (∀ c ∈ qs, c.natAbs ≤ 81) → Q (.ref D) H'
theorem ok_l_others {f : Addr} {fd : FuncData} (F : Fun K "_law_others" "_law_others" s_l_others f fd) (T : Txt K mg C) (G_l_draw : Cal P w K mg base "_law_draw" 1 ["_law_script", "_law_k", "_law_many"] (spDraw K)) (G_l_digits : Cal P w K mg base "_law_digits" 1 ["_law_number_here", "_law_by", "_law_many"] spDigits) :
    FnOk P w K mg base CX0 2 f fd ["_law_script", "_law_paces"] (spOthers K) := by
  refine F.ok sc_l_others (fun vs H Q E h => ?_) (fun cdv A outer s H vs Q E hr h => ?_)
  · obtain ⟨l, a, ns, ps, rfl, _⟩ := h
    rfl
  · obtain ⟨l, a, ns, ps, rfl, hS, hns, ea, hp3, hpb, q⟩ := h
    have hA : SqL K H a (intL ps) := SqL.of ea
    refine ⟨_, (pss_cons (ps_set (i := 2) sc_l_others.nd rfl (Or.inl rfl) (pe_cal G_l_draw hr (by rfl) (pa_cons (pv 0) (pa_cons pe_int (pa_cons pe_int pa_nil)))))
      (pss_cons (ps_set (i := 3) sc_l_others.nd rfl (Or.inl rfl) (pe_cal G_l_draw hr (by rfl) (pa_cons (pv 0) (pa_cons pe_int (pa_cons pe_int pa_nil)))))
      (pss_cons (ps_if (PW.pt (pw_or (pt_cmpR op_lt (pv 2) pe_int (nomark _)) (pw_or1 (pt_cmpR (op_eqD hr.units) (pv 1) (pe_lst pa_nil) (nomark _))))) (pss_one (ps_ret (pe_callTy call_list_of (by rfl) T.list b_list (pa_cons (pv 1) pa_nil)))) pss_nil)
      (pss_cons (ps_set (i := 4) sc_l_others.nd rfl (Or.inl rfl) (pe_op op_mod (pv 3) (pe_callB call_len_seq (by rfl) T.len b_len (pa_cons (pv 1) pa_nil))))
      (pss_cons (ps_if (pt_cmpR op_eq (pv 2) pe_int (nomark _)) (pss_one (ps_ret (pe_op op_cat (pe_op op_cat (pe_slice sl_list (pv 1) po_none (po_some (pv 4))) (pe_lst (pa_cons (pe_op op_sub pe_int (pe_ix (k_ixl K) (pv 1) (pv 4) (fun _ _ => rfl))) pa_nil))) (pe_slice sl_list (pv 1) (po_some (pe_op op_add (pv 4) pe_int)) po_none)))) pss_nil)
      (pss_cons (ps_if (pt_cmpR op_eq (pv 2) pe_int (nomark _)) (pss_one (ps_ret (pe_op op_cat (pe_slice sl_list (pv 1) (po_some (pv 4)) po_none) (pe_slice sl_list (pv 1) po_none (po_some (pv 4)))))) pss_nil)
      (pss_cons (ps_if (pt_cmpR op_eq (pv 2) pe_int (nomark _)) (pss_one (ps_ret (pe_lc (own := [("_law_digit", 5)]) (g := gName 5) (tt := tYes) (by rfl) sc_l_others.nd (k_list K (pe_cal G_l_digits hr (by rfl) (pa_cons (pe_cal G_l_draw hr (by rfl) (pa_cons (pv 0) (pa_cons pe_int (pa_cons pe_int pa_nil)))) (pa_cons pe_int (pa_cons (pe_callB call_len_seq (by rfl) T.len b_len (pa_cons (pv 1) pa_nil)) pa_nil)))))  (blkOk_by (own := [("_law_digit", 5)]) (N := N_l_others) (sc := defScope s_l_others) (by decide +kernel)) (fun _ _ _ _ _ => (pg_name (i := 5) sc_l_others.nd rfl (Or.inl rfl))) (fun _ _ _ _ _ => pts_nil) (fun _ _ _ _ _ => (pe_op op_sub (pv 5) pe_int))))) pss_nil)
      (pss_cons (ps_if (pt_cmpR op_eq (pv 2) pe_int (nomark _)) (pss_one (ps_ret (pe_op op_cat (pe_op op_cat (pe_slice sl_list (pv 1) po_none (po_some (pv 4))) (pe_lst (pa_cons pe_int pa_nil))) (pe_slice sl_list (pv 1) (po_some (pe_op op_add (pv 4) pe_int)) po_none)))) pss_nil)
      (pss_one (ps_ret (pe_op op_cat (pe_op op_cat (pe_slice sl_list (pv 1) po_none (po_some (pv 4))) (pe_lst (pa_cons (pe_op op_add (pe_ix (k_ixl K) (pv 1) (pv 4) (fun _ _ => rfl)) (pe_ix (k_ixl K) (pe_lst (pa_cons pe_int (pa_cons (pe_un un_neg pe_int) (pa_cons pe_int pa_nil)))) (pe_op op_mod (pe_op op_fdiv (pv 3) pe_int) pe_int) (fun _ _ => rfl))) pa_nil))) (pe_slice sl_list (pv 1) (po_some (pe_op op_add (pv 4) pe_int)) po_none)))))))))))), ?_⟩
    refine ⟨_, rfl, l, ns, 8, 8, rfl, hS, hns, by omega, by omega, fun way hw0 hw1 _ => ?_⟩
    refine ⟨_, rfl, l, ns, 9, 48, rfl, hS, hns, by omega, by omega, fun k hk0 hk1 _ => ?_⟩
    have copy : ∀ H' : Hp, Same H H' → ∃ (p : Addr) (ys : List V), [V.ref a] = [V.ref p] ∧ (SqL K H' p ys ∨ SqT K H' p ys) ∧ ∀ D, H' D = none → Q (.ref D) (upd H' D (.lst ys)) := fun H' s' =>
      ⟨a, intL ps, rfl, .inl (s'.seq hA), fun D nD => q _ D ps (s'.trans (same_upd nD)) upd_same rfl fun c hc => Nat.le_trans (hpb c hc) (by omega)⟩
    refine ⟨_, rfl, _, _, rfl, rfl, _, rfl, ?_⟩
    refine ite2 (fun _ => ⟨_, rfl, copy H (Same.refl H)⟩) fun _ => ?_
    refine ⟨_, rfl, Nat.zero_le _, fun z nz => ?_⟩
    have sz : Same H (upd H z (.lst [])) := same_upd nz
    have ez1 : upd H z (.lst []) z = some (.lst []) := upd_same
    generalize upd H z (.lst []) = H1 at sz ez1 ⊢
    have ea1 := sz _ _ ea
    refine ⟨_, _, dp_is (SqL.of ea1), dp_nil ez1, (gd_is _).shaped (by decide), gd_nil.shaped (by decide), _, rfl, ?_⟩
    unfold dIs
    rw [eqv_nil]
    by_cases hne : ps = []
    · subst hne
      exact iteT ⟨_, rfl, copy H1 sz⟩
    · have hemp : (ps.map PyData.int).isEmpty = false := by
        cases ps with
        | nil => exact absurd rfl hne
        | cons x r => rfl
      rw [hemp]
      refine iteF ?_
      have hl0 : 0 < ps.length := List.length_pos_iff.mpr hne
      refine ⟨_, rfl, _, rfl, a, _, rfl, .inl (SqL.of ea1), _, _, rfl, rfl, by rw [len_intL]; omega, ?_⟩
      rw [len_intL]
      have hj0 := Int.emod_nonneg k (show (ps.length : Int) ≠ 0 by omega)
      have hj1 := Int.emod_lt_of_pos k (show (0 : Int) < (ps.length : Int) by omega)
      obtain ⟨ax, hj⟩ : ∃ j : Nat, k % (ps.length : Int) = (j : Int) := ⟨_, (Int.toNat_of_nonneg hj0).symm⟩
      have hax : ax < ps.length := by omega
      have hS1 := sz.seq hS
      show tSeq _ _ _ [some (.ref l), some (.ref a), some (.int way), some (.int k), some (.int (k % (ps.length : Int))), none] H1
      rw [hj]
      have q1 : ∀ (H' : Hp) (D : Addr) (qs : List Int), Same H1 H' → H' D = some (.lst (intL qs)) → qs.length = ps.length → (∀ c ∈ qs, c.natAbs ≤ 81) → Q (.ref D) H' := fun H' D qs s' => q H' D qs (sz.trans s')
      have pin : ps[ax]? = some ps[ax] := List.getElem?_eq_getElem hax
      have pbd := hpb _ (List.getElem_mem hax)
      generalize ps[ax] = c at pin pbd
      have cIx : ∀ H2 : Hp, Same H1 H2 → atI (intL ps) (ax : Int) = some (.int c) := fun H2 _ => atI_nat (by rw [List.getElem?_map, pin]; rfl)
      refine ⟨_, rfl, rfl, _, rfl, ?_⟩
      refine ite2 (fun _ => ?_) fun _ => ?_
      · exact set_at rfl rfl ea1 hax hp3 (fun x hx => Nat.le_trans (hpb x hx) (by omega)) (fun H2 R s2 k => ⟨_, rfl, _, rfl, a, _, _, _, rfl, rfl, SqL.of (s2 _ _ ea1), cIx H2 s2, _, _, rfl, rfl, k (0 - c) _ (Same.refl _) (by omega)⟩) q1
      refine ⟨_, rfl, rfl, _, rfl, ?_⟩
      refine ite2 (fun _ => ?_) fun _ => ?_
      · refine ⟨_, rfl, _, rfl, ax, rfl, a, _, rfl, SqL.of ea1, fun u nu => ?_⟩
        rw [cut_drop (by rw [len_intL]; omega), intL_drop]
        have su := same_upd (o := .lst (intL (ps.drop ax))) nu
        refine ⟨_, rfl, _, rfl, ax, rfl, a, _, rfl, SqL.of (su _ _ ea1), fun v nv => ?_⟩
        rw [cut_take (by rw [len_intL]; omega), intL_take]
        have sv := same_upd (o := .lst (intL (ps.take ax))) nv
        refine ⟨u, v, _, _, rfl, rfl, sv _ _ upd_same, upd_same, by rw [len_intL, len_intL, List.length_drop, List.length_take]; exact Nat.le_of_lt (small (by omega)), fun D nD => ?_⟩
        rw [← intL_append]
        refine q1 _ D _ ((su.trans sv).trans (same_upd nD)) upd_same (by rw [List.length_append, List.length_drop, List.length_take]; omega) fun x hx => ?_
        rcases List.mem_append.mp hx with hx | hx
        · exact Nat.le_trans (hpb x (List.mem_of_mem_drop hx)) (by omega)
        · exact Nat.le_trans (hpb x (List.mem_of_mem_take hx)) (by omega)
      refine ⟨_, rfl, rfl, _, rfl, ?_⟩
      refine ite2 (fun _ => ?_) fun _ => ?_
      · refine ⟨_, rfl, l, ns, 10, 815730721, rfl, hS1, hns, by omega, by omega, fun y hy0 hy1 _ => ?_⟩
        refine ⟨_, rfl, a, _, rfl, .inl (SqL.of ea1), ?_⟩
        rw [len_intL]
        refine ⟨y, 13, ps.length, rfl, by omega, by omega, hp3, fun H2 G ds s2 eG hG hds => ?_⟩
        refine ⟨G, rfl, ⟨_, SqL.of eG⟩, fun D nD => ?_⟩
        refine lc_ints (walk_list (K := K) (a := G) (xs := intL ds)) (ds.map fun d => d - 6) (by rw [List.length_map, List.length_map]) (by rw [List.length_map]; omega) nD
          (fun H3 s3 => SqL.of (s3 _ _ eG)) (fun i H3 x H4 _ _ y => same_at i H3 x H4 y) (fun i x z H3 H4 R hi hz' s3 y s4 hR => ?_) (fun H3 s3 e3 => ?_)
        · obtain ⟨rfl, hx⟩ := y
          obtain ⟨d, hd, rfl⟩ := intL_get hx
          rw [List.getElem?_map, hd] at hz'
          have ez : d - 6 = z := Option.some.inj hz'
          subst ez
          exact ⟨rfl, _, rfl, _, _, rfl, rfl, hR _ (Same.refl _)⟩
        · refine q1 H3 D _ (s2.trans s3) e3 (by rw [List.length_map]; exact hG) fun x hx => ?_
          obtain ⟨d, hd, rfl⟩ := List.mem_map.mp hx
          have := hds d hd
          omega
      refine ⟨_, rfl, rfl, _, rfl, ?_⟩
      refine ite2 (fun _ => ?_) fun _ => ?_
      · exact set_at rfl rfl ea1 hax hp3 (fun x hx => Nat.le_trans (hpb x hx) (by omega)) (fun H2 R s2 k => k 0 _ (Same.refl _) (by decide)) q1
      · refine set_at rfl rfl ea1 hax hp3 (fun x hx => Nat.le_trans (hpb x hx) (by omega)) (fun H2 R s2 kk => ?_) q1
        refine ⟨_, rfl, _, rfl, a, _, _, _, rfl, rfl, SqL.of (s2 _ _ ea1), cIx H2 s2, ?_⟩
        refine ⟨_, rfl, by show 3 ≤ sizeLine; decide, fun u nu => ?_⟩
        have eu : upd H2 u (.lst [.int 1, .int (-1), .int 2]) u = some (.lst (intL [1, -1, 2])) := upd_same
        have su := same_upd (o := .lst [.int 1, .int (-1), .int 2]) nu
        have m0 := Int.emod_nonneg (k / 8) (show (3 : Int) ≠ 0 by omega)
        have m1 := Int.emod_lt_of_pos (k / 8) (show (0 : Int) < 3 by omega)
        obtain ⟨x, ex, hx⟩ := pickL (xs := [1, -1, 2]) m0 (by show k / 8 % 3 < 3; exact m1)
        have hx2 := (show ∀ x : Int, x ∈ ([1, -1, 2] : List Int) → -1 ≤ x ∧ x ≤ 2 by decide) x hx
        exact ⟨_, rfl, _, _, rfl, rfl, cdiv (by omega) (by omega), _, _, rfl, rfl, by omega, u, _, _, _, rfl, rfl, SqL.of eu, ex, _, _, rfl, rfl, kk (c + x) _ su (by omega)⟩
end
end PH

/-! The walks: the law's own least, most, cells. -/
namespace PH
open PySem PySem.Spec PyProof.Rows L2
/-- two lists, one of sizes and one of paces -/
def Two (K : PySem.W.Frag) (H : Hp) (a b : Addr) (axes : List (Nat × Int)) : Prop := SqL K H a (natL (axes.map (·.1))) ∧ SqL K H b (intL (axes.map (·.2)))
theorem Two.same {K : PySem.W.Frag} {H H' : Hp} {a b : Addr} {axes : List (Nat × Int)} (h : Two K H a b axes) (s : Same H H') : Two K H' a b axes := ⟨s.seq h.1, s.seq h.2⟩
theorem ax_get {axes : List (Nat × Int)} {i : Nat} {x y : V} (hx : (natL (axes.map (·.1)))[i]? = some x) (hy : (intL (axes.map (·.2)))[i]? = some y) : ∃ s c, axes[i]? = some (s, c) ∧ x = nI s ∧ y = .int c := by
  obtain ⟨s, hs, rfl⟩ := natL_get hx
  obtain ⟨c, hc, rfl⟩ := intL_get hy
  rw [List.getElem?_map] at hs hc
  cases e : axes[i]? with
  | none => rw [e] at hs; cases hs
  | some z =>
    rw [e] at hs hc
    have h1 : z.1 = s := Option.some.inj hs
    have h2 : z.2 = c := Option.some.inj hc
    exact ⟨s, c, by rw [← h1, ← h2], rfl, rfl⟩
theorem len_two (axes : List (Nat × Int)) : axes.length = min (natL (axes.map (·.1))).length (intL (axes.map (·.2))).length := by
  rw [len_natL, len_intL, List.length_map, List.length_map, Nat.min_self]
section
variable {P : Program} {w : World} {K : PySem.W.Frag} {mg : Str → Option Value} {base : Heap} {C : Addr}
def spLLow (K : PySem.W.Frag) : Sp := fun vs H Q _ => ∃ (a b : Addr) (axes : List (Nat × Int)), vs = [.ref a, .ref b] ∧ Two K H a b axes ∧ SzOk (axes.map (·.1)) ∧ ∀ (H' : Hp), Same H H' → Q (.int (lowF axes)) H'
theorem ok_l_least {f : Addr} {fd : FuncData} (F : Fun K "_law_least" "_law_least" s_l_least f fd) (T : Txt K mg C) : FnOk P w K mg base CX0 1 f fd ["_law_sizes_here", "_law_paces"] (spLLow K) := by
  refine F.ok sc_l_least (fun vs H Q E h => ?_) (fun cdv A outer s H vs Q E hr h => ?_)
  · obtain ⟨a, b, axes, rfl, _⟩ := h
    rfl
  · obtain ⟨a, b, axes, rfl, hT, hz, q⟩ := h
    have hb := sz_axes hz
    refine ⟨_, (pss_one (ps_ret (pe_callB (cr_sum rfl) (by rfl) T.sum b_sum (pa_cons (pe_lc (own := [("_law_size", 2), ("_law_pace", 3)]) (g := gTup K 2 (gCons (gName 2) (gCons (gName 3) gNil))) (tt := tYes) (by rfl) sc_l_least.nd (pi_zip (by rfl) T.zip (pa_cons (pv 0) (pa_cons (pv 1) pa_nil)))  (blkOk_by (own := [("_law_size", 2), ("_law_pace", 3)]) (N := N_l_least) (sc := defScope s_l_least) (by decide +kernel)) (fun _ _ _ _ _ => (pg_tup rfl (pgs_cons (pg_name (i := 2) sc_l_least.nd rfl (Or.inl rfl)) (pgs_cons (pg_name (i := 3) sc_l_least.nd rfl (Or.inl rfl)) pgs_nil)))) (fun _ _ _ _ _ => pts_nil) (fun _ _ _ _ _ => (pe_callB (call_min2 rfl) (by rfl) T.min b_min (pa_cons pe_int (pa_cons (pe_op op_mul (pv 3) (pe_op op_sub (pv 2) pe_int)) pa_nil))))) pa_nil)))), ?_⟩
    refine ⟨_, rfl, _, rfl, a, b, _, _, rfl, hT.1, hT.2, fun D nD => ?_⟩
    refine lc_ints (walk_zip (K := K) (a := a) (b := b) (len_two axes)) (lowL axes) (by rw [lowL, List.length_map]) (by have := hb.1; omega) nD
      (fun H3 s3 => hT.same s3) (fun i H3 x H4 _ _ y => same_pair i H3 x H4 y) (fun i x z H3 H4 R hi hz' s3 y s4 hR => ?_) (fun H3 s3 e3 => ?_)
    · obtain ⟨t, x1, x2, rfl, nt, rfl, hx, hy⟩ := y
      obtain ⟨s, c, hx2, rfl, rfl⟩ := ax_get hx hy
      have hs := hb.2 s c (List.mem_of_getElem? hx2)
      rw [lowL, List.getElem?_map, hx2] at hz'
      have ez : lo1 (c * ((s : Int) - 1)) = z := Option.some.inj hz'
      subst ez
      exact ⟨t, _, rfl, SqT.of upd_same, rfl, _, _, rfl, _, _, rfl, rfl, rfl, _, rfl, _, rfl, _, _, rfl, rfl, _, _, rfl, rfl, .inr ⟨by omega, by omega⟩, _, _, rfl, hR _ (Same.refl _)⟩
    · exact ⟨D, _, rfl, SqL.of e3, q H3 s3⟩
def spLHigh (K : PySem.W.Frag) : Sp := fun vs H Q _ => ∃ (a b : Addr) (axes : List (Nat × Int)), vs = [.ref a, .ref b] ∧ Two K H a b axes ∧ SzOk (axes.map (·.1)) ∧ ∀ (H' : Hp), Same H H' → Q (.int (highF axes)) H'
theorem ok_l_most {f : Addr} {fd : FuncData} (F : Fun K "_law_most" "_law_most" s_l_most f fd) (T : Txt K mg C) : FnOk P w K mg base CX0 1 f fd ["_law_sizes_here", "_law_paces"] (spLHigh K) := by
  refine F.ok sc_l_most (fun vs H Q E h => ?_) (fun cdv A outer s H vs Q E hr h => ?_)
  · obtain ⟨a, b, axes, rfl, _⟩ := h
    rfl
  · obtain ⟨a, b, axes, rfl, hT, hz, q⟩ := h
    have hb := sz_axes hz
    refine ⟨_, (pss_one (ps_ret (pe_callB (cr_sum rfl) (by rfl) T.sum b_sum (pa_cons (pe_lc (own := [("_law_size", 2), ("_law_pace", 3)]) (g := gTup K 2 (gCons (gName 2) (gCons (gName 3) gNil))) (tt := tYes) (by rfl) sc_l_most.nd (pi_zip (by rfl) T.zip (pa_cons (pv 0) (pa_cons (pv 1) pa_nil)))  (blkOk_by (own := [("_law_size", 2), ("_law_pace", 3)]) (N := N_l_most) (sc := defScope s_l_most) (by decide +kernel)) (fun _ _ _ _ _ => (pg_tup rfl (pgs_cons (pg_name (i := 2) sc_l_most.nd rfl (Or.inl rfl)) (pgs_cons (pg_name (i := 3) sc_l_most.nd rfl (Or.inl rfl)) pgs_nil)))) (fun _ _ _ _ _ => pts_nil) (fun _ _ _ _ _ => (pe_callB (call_max2 rfl) (by rfl) T.max b_max (pa_cons pe_int (pa_cons (pe_op op_mul (pv 3) (pe_op op_sub (pv 2) pe_int)) pa_nil))))) pa_nil)))), ?_⟩
    refine ⟨_, rfl, _, rfl, a, b, _, _, rfl, hT.1, hT.2, fun D nD => ?_⟩
    refine lc_ints (walk_zip (K := K) (a := a) (b := b) (len_two axes)) (highL axes) (by rw [highL, List.length_map]) (by have := hb.1; omega) nD
      (fun H3 s3 => hT.same s3) (fun i H3 x H4 _ _ y => same_pair i H3 x H4 y) (fun i x z H3 H4 R hi hz' s3 y s4 hR => ?_) (fun H3 s3 e3 => ?_)
    · obtain ⟨t, x1, x2, rfl, nt, rfl, hx, hy⟩ := y
      obtain ⟨s, c, hx2, rfl, rfl⟩ := ax_get hx hy
      have hs := hb.2 s c (List.mem_of_getElem? hx2)
      rw [highL, List.getElem?_map, hx2] at hz'
      have ez : hi1 (c * ((s : Int) - 1)) = z := Option.some.inj hz'
      subst ez
      exact ⟨t, _, rfl, SqT.of upd_same, rfl, _, _, rfl, _, _, rfl, rfl, rfl, _, rfl, _, rfl, _, _, rfl, rfl, _, _, rfl, rfl, .inr ⟨by omega, by omega⟩, _, _, rfl, hR _ (Same.refl _)⟩
    · exact ⟨D, _, rfl, SqL.of e3, q H3 s3⟩
def spLCells (K : PySem.W.Frag) : Sp := fun vs H Q _ => ∃ (a b : Addr) (f : Int) (axes : List (Nat × Int)), vs = [.int f, .ref a, .ref b] ∧ Two K H a b axes ∧ SzOk (axes.map (·.1)) ∧ ∀ (H' : Hp) (l : Addr), Same H H' → H' l = some (.lst (intL (cellsF f axes))) → Q (.ref l) H'
theorem ok_l_cells {f : Addr} {fd : FuncData} (F : Fun K "_law_cells" "_law_cells" s_l_cells f fd) (T : Txt K mg C) : FnOk P w K mg base CX0 1 f fd ["_law_first", "_law_sizes_here", "_law_paces"] (spLCells K) := by
  refine F.ok sc_l_cells (fun vs H Q E h => ?_) (fun cdv A outer s H vs Q E hr h => ?_)
  · obtain ⟨a, b, f, axes, rfl, _⟩ := h
    rfl
  · obtain ⟨a, b, f, axes, rfl, hT, hz, q⟩ := h
    have hb := sz_axes hz
    have hpr := hz.prod
    refine ⟨_, (pss_cons (ps_set (i := 3) sc_l_cells.nd rfl (Or.inl rfl) (pe_lst (pa_cons (pv 0) pa_nil)))
      (pss_cons (ps_for PassesOwn.never rfl (pi_zip (by rfl) T.zip (pa_cons (pv 1) (pa_cons (pv 2) pa_nil))) (pg_tup rfl (pgs_cons (pg_name (i := 4) sc_l_cells.nd rfl (Or.inl rfl)) (pgs_cons (pg_name (i := 5) sc_l_cells.nd rfl (Or.inr rfl)) pgs_nil))) (pss_cons (ps_set (i := 6) sc_l_cells.nd rfl (Or.inl rfl) (pe_lst pa_nil))
      (pss_cons (ps_for PassesOwn.never rfl (k_list K (pv 3)) (pg_name (i := 7) sc_l_cells.nd rfl (Or.inr rfl)) (pss_one (ps_expr (pe_bm PySem.F.plainAttrs_list PySem.F.slot_list_extend PySem.F.type_list_extend mt_extend (pv 6) (pa_cons (pe_lc (own := [("_law_k", 8)]) (g := gName 8) (tt := tYes) (by rfl) sc_l_cells.nd (pi_range1 rfl T.range (pa_cons (pv 4) pa_nil))  (blkOk_by (own := [("_law_k", 8)]) (N := N_l_cells) (sc := defScope s_l_cells) (by decide +kernel)) (fun _ _ _ _ _ => (pg_name (i := 8) sc_l_cells.nd rfl (Or.inl rfl))) (fun _ _ _ _ _ => pts_nil) (fun _ _ _ _ _ => (pe_op op_add (pv 7) (pe_op op_mul (pv 5) (pv 8))))) pa_nil)))))
      (pss_one (ps_set (i := 3) sc_l_cells.nd rfl (Or.inl rfl) (pv 6))))))
      (pss_one (ps_ret (pv 3))))), ?_⟩
    refine ⟨_, rfl, by show 1 ≤ sizeLine; decide, fun g0 ng0 => ?_⟩
    have sg0 : Same H (upd H g0 (.lst [.int f])) := same_upd ng0
    refine ⟨_, rfl, _, rfl, a, b, _, _, rfl, sg0.seq hT.1, sg0.seq hT.2, for_it (walk_zip (K := K) (a := a) (b := b) (len_two axes)) (fun i σ H2 => ∃ (lf : Addr) (v4 v5 v6 v7 : Option V), σ = [some (.int f), some (.ref a), some (.ref b), some (.ref lf), v4, v5, v6, v7, none] ∧
        Same H H2 ∧ H2 lf = some (.lst (intL (cellsF f (axes.take i)))))
      ⟨g0, none, none, none, none, rfl, sg0, upd_same⟩ (fun i σ H2 _ ⟨_, _, _, _, _, _, s2, _⟩ => hT.same s2) ?_ ?_⟩
    · rintro i y σ H1 H2 hi ⟨lf, v2, v3, v4, v5, rfl, s1, ef1⟩ ⟨t, x1, x2, rfl, nt, rfl, hx, hy⟩
      obtain ⟨n, c, hx2, rfl, rfl⟩ := ax_get hx hy
      have st := same_upd (o := .tup [nI n, .int c]) nt
      have et : upd H1 t (.tup [nI n, .int c]) t = some (.tup [nI n, .int c]) := upd_same
      have s2 := s1.trans st
      have ef := st _ _ ef1
      generalize upd H1 t (.tup [nI n, .int c]) = H2 at st et s2 ef ⊢
      have hs := hb.2 n c (List.mem_of_getElem? hx2)
      have hfl : (cellsF f (axes.take i)).length ≤ 216 := by
        rw [len_cellsF, List.map_take]
        exact (hz.take i).prod
      refine ⟨t, _, rfl, SqT.of et, rfl, _, _, rfl, _, _, rfl, rfl, ?_⟩
      -- longer = []
      refine ⟨Nat.zero_le _, fun g ng => ?_⟩
      have sg : Same H2 (upd H2 g (.lst [])) := same_upd ng
      refine ⟨_, rfl, lf, rfl, ⟨_, SqL.of (sg _ _ ef)⟩, for_list (K := K) (a := lf) (xs := intL (cellsF f (axes.take i))) (fun j σ H3 => ∃ (v5 : Option V), σ = [some (.int f), some (.ref a), some (.ref b), some (.ref lf), some (nI n), some (.int c), some (.ref g), v5, none] ∧
          Same H2 H3 ∧ H3 g = some (.lst (intL (((cellsF f (axes.take i)).take j).flatMap (cell1 n c)))))
        ⟨v5, rfl, sg, upd_same⟩ (fun j σ H3 _ ⟨_, _, s3, _⟩ => SqL.of (s3 _ _ ef)) ?_ ?_⟩
      · rintro j y σ H3 hj ⟨v5, rfl, s3, eg⟩
        obtain ⟨z, hzj, rfl⟩ := intL_get hj
        have hjl : j < (cellsF f (axes.take i)).length := (List.getElem?_eq_some_iff.mp hzj).1
        have hql : (((cellsF f (axes.take i)).take j).flatMap (cell1 n c)).length ≤ 1296 := by
          rw [len_flatMap (cell1 n c) n _ fun p _ => len_cell1 n c p, List.length_take]
          exact Nat.mul_le_mul (show min j _ ≤ 216 by omega) hs.2
        refine ⟨_, rfl, .inl ⟨rfl, _, SqL.of eg⟩, _, rfl, _, rfl, by omega, by omega, fun D nD => ?_⟩
        refine lc_ints (walk_range (lo := 0) (n := n)) (cell1 n c z) (len_cell1 n c z) (by omega) nD (fun _ _ => trivial) (fun k H4 x H5 _ _ y => same_fn k H4 x H5 y) (fun k x u H4 H5 R hk hu s4 y s5 hR => ?_) (fun H4 s4 e4 => ?_)
        · obtain ⟨rfl, rfl⟩ := y
          unfold cell1 at hu
          rw [List.getElem?_map, List.getElem?_range hk] at hu
          have eu : z + c * (k : Int) = u := Option.some.inj hu
          subst eu
          refine ⟨rfl, _, rfl, _, rfl, _, rfl, _, _, rfl, rfl, .inr ⟨by omega, by omega⟩, _, _, rfl, rfl, ?_⟩
          rw [Int.zero_add]
          exact hR _ (Same.refl _)
        · have eg4 := s4 _ _ eg
          refine ⟨g, D, _, _, rfl, rfl, eg4, e4, by rw [List.length_map, List.length_map, len_cell1]; exact Nat.le_of_lt (small (by omega)), some (.int z), rfl, Same.butNew (s3.trans s4) (But.upd _ _ _) ng, ?_⟩
          rw [upd_same, flat_take_snoc _ hzj, intL_append]
      · rintro σ H3 ⟨v5, rfl, s3, eg⟩
        refine ⟨_, rfl, g, _, _, _, _, rfl, s2.trans s3, ?_⟩
        rw [eg, List.length_map, List.take_length, take_snoc hx2, cellsF_snoc]
        rfl
    · rintro σ H2 ⟨lf, v2, v3, v4, v5, rfl, s2, ef⟩
      rw [List.take_length] at ef
      exact ⟨_, rfl, q H2 lf s2 ef⟩
end
end PH

/-! The walks: the law's two views and the great ones. -/
namespace PH
open PySem PySem.Spec PyProof.Rows L2
theorem zip_map {α β : Type} : ∀ {xs : List α} {ys : List β}, xs.length = ys.length → (xs.zip ys).map (·.1) = xs ∧ (xs.zip ys).map (·.2) = ys
  | [], [], _ => ⟨rfl, rfl⟩
  | [], _ :: _, h => by simp at h
  | _ :: _, [], h => by simp at h
  | x :: xs, y :: ys, h => by
    have ih := zip_map (xs := xs) (ys := ys) (by simpa using h)
    rw [List.zip_cons_cons, List.map_cons, List.map_cons, ih.1, ih.2]
    exact ⟨rfl, rfl⟩
/-- what list(zip(sizes, paces)) is -/
theorem zip_axes {H : Hp} {ts : List Addr} {axes : List (Nat × Int)} (hl : ts.length = (natL (axes.map (·.1))).length) (h : ∀ (i : Nat) (t : Addr), ts[i]? = some t → ∃ x y, (natL (axes.map (·.1)))[i]? = some x ∧ (intL (axes.map (·.2)))[i]? = some y ∧ H t = some (.tup [x, y])) :
    ∃ zs : List (Addr × (Nat × Int)), ts.map V.ref = refL zs ∧ zs.map (·.2) = axes ∧ AllA AxA H zs := by
  rw [len_natL, List.length_map] at hl
  have e := zip_map hl
  refine ⟨ts.zip axes, ?_, e.2, fun p hp => ?_⟩
  · unfold refL
    rw [show ((ts.zip axes).map fun p => V.ref p.1) = ((ts.zip axes).map (·.1)).map V.ref by rw [List.map_map]; rfl, e.1]
  · obtain ⟨i, hi⟩ := List.mem_iff_getElem?.mp hp
    have h1 : ts[i]? = some p.1 := by rw [← e.1, List.getElem?_map, hi]; rfl
    have h2 : axes[i]? = some p.2 := by rw [← e.2, List.getElem?_map, hi]; rfl
    obtain ⟨x, y, hx, hy, k⟩ := h i p.1 h1
    obtain ⟨s, c, h3, rfl, rfl⟩ := ax_get hx hy
    rw [h2] at h3
    have h4 : p.2 = (s, c) := Option.some.inj h3
    show H p.1 = some (.tup [nI p.2.1, .int p.2.2])
    rw [h4]
    exact k
/-- View(room, first, axes) -/
theorem view_made {C : Addr} {H : Hp} {R : Addr → Hp → Prop} {E : XK} {la : Addr} {r f : Int} {zs : List (Addr × (Nat × Int))} (hl : H la = some (.lst (refL zs))) (hA : AllA AxA H zs) (hz : SzOk ((zs.map (·.2)).map (·.1))) (r1 : 1 ≤ r) (r2 : r ≤ 10 ^ 18) (c1 : 0 ≤ f + lowF (zs.map (·.2))) (c2 : f + highF (zs.map (·.2)) < r)
    (q : ∀ (H' : Hp) (x : Addr), Same H H' → VwA C H' x r f (keptF (zs.map (·.2))) → R x H') :
    ∀ x dx, H x = none → H dx = none → dx ≠ x → spInit C (.ref x :: ([.int r, .int f, .ref la] ++ [])) (upd (upd H dx (.own x)) x (.ins C dx [])) (fun v H2 => v = .non ∧ R x H2) E := fun x dx nx nd hne => by
  have s1 : Same H (upd (upd H dx (.own x)) x (.ins C dx [])) := (same_upd nd).trans (same_upd (by rw [upd_ne (Ne.symm hne)]; exact nx))
  refine ⟨x, dx, la, r, f, zs, rfl, upd_same, s1 _ _ hl, hA.imp fun a y k => k.same s1, hz, r1, r2, c1, c2, fun H' b hV => ⟨rfl, q H' x (Same.butNew s1 b nx) hV⟩⟩
section
variable {P : Program} {w : World} {K : PySem.W.Frag} {mg : Str → Option Value} {base : Heap} {C : Addr}
/-- two views as the law draws them -/
structure Good (f : Int) (axes : List (Nat × Int)) (r : Int) : Prop where
  ax : AxOk axes
  lo : 0 ≤ f + lowF axes
  hi : f + highF axes < r
theorem once_of {sz : List Nat} {axes : List (Nat × Int)} {unit f : Int} (I : OInv sz [] (axes.map (·.2)) unit) (e : axes.map (·.1) = sz) : Once f axes := fun p q hp hq h => by
  rw [e] at hp hq
  exact I.once hp hq (by omega)
def spTwo (K : PySem.W.Frag) (C : Addr) : Sp := fun vs H Q _ => ∃ (l a : Addr) (ns : List Int) (sz : List Nat), vs = [.ref l, .ref a] ∧ SqL K H l (intL ns) ∧ ns.length ≤ 63 ∧ SqL K H a (natL sz) ∧ SzOk sz ∧
  ∀ (H' : Hp) (t v1 v2 w1 w2 : Addr) (r f f2 : Int) (axes axes2 : List (Nat × Int)), Same H H' → H' t = some (.tup [.ref v1, .ref v2, .ref w1, .ref w2]) → VwA C H' v1 r f (keptF axes) → VwA C H' v2 r f2 (keptF axes2) → H' w1 = some (.lst (intL (cellsF f axes))) → H' w2 = some (.lst (intL (cellsF f2 axes2))) →
    axes.map (·.1) = sz → axes2.map (·.1) = sz → Good f axes r → Good f2 axes2 r → Once f axes → 1 ≤ r → r ≤ 9999 → Q (.ref t) H'
/-- what follows once the begins are known -/
theorem two_tail {K : PySem.W.Frag} {C : Addr} {H : Hp} {Q : VK} {l a pa oa : Addr} {ns : List Int} {axes axes2 : List (Nat × Int)} {f b : Int} (hS : SqL K H l (intL ns)) (hns : ns.length ≤ 63) (T1 : Two K H a pa axes) (T2 : Two K H a oa axes2) (hz1 : SzOk (axes.map (·.1))) (hz2 : SzOk (axes2.map (·.1)))
    (A1 : AxOk axes) (A2 : AxOk axes2) (f0 : 0 ≤ f + lowF axes) (f1 : f ≤ 2500) (b0 : 0 ≤ b + lowF axes2) (b1 : b ≤ 2500)
    (q : ∀ (H' : Hp) (t v1 v2 w1 w2 : Addr) (r : Int), Same H H' → H' t = some (.tup [.ref v1, .ref v2, .ref w1, .ref w2]) → VwA C H' v1 r f (keptF axes) → VwA C H' v2 r b (keptF axes2) → H' w1 = some (.lst (intL (cellsF f axes))) → H' w2 = some (.lst (intL (cellsF b axes2))) →
      Good f axes r → Good b axes2 r → 1 ≤ r → r ≤ 9999 → Q (.ref t) H') :
    tSeq
      (tAsg
        (tCB (fun xs H Q => ∃ i j, xs = [V.int i, V.int j] ∧ Q (V.int (if j > i then j else i)) H)
          (tCons (tOp (rI0 fun i j => V.int (i + j)) (tVar 4) (tCall (spLHigh K) [] E0 (tCons (tVar 1) (tCons (tVar 2) tNil))))
            (tCons (tOp (rI0 fun i j => V.int (i + j)) (tVar 5) (tCall (spLHigh K) [] E0 (tCons (tVar 1) (tCons (tVar 3) tNil)))) tNil)))
        (gName 6))
      (tSeq
        (tAsg (tOp (rI0 fun i j => V.int (i + j)) (tOp (rI0 fun i j => V.int (i + j)) (tVar 6) (tC (V.int 1))) (tCall (spDraw K) [] E0 (tCons (tVar 0) (tCons (tC (V.int 14)) (tCons (tC (V.int 3)) tNil))))) (gName 7))
        (tSeq
          (tAsg (tMake C (spInit C) [] E0 (tCons (tVar 7) (tCons (tVar 4) (tCons (tListZip K (tCons (tVar 1) (tCons (tVar 2) tNil))) tNil)))) (gName 8))
          (tSeq
            (tAsg (tMake C (spInit C) [] E0 (tCons (tVar 7) (tCons (tVar 5) (tCons (tListZip K (tCons (tVar 1) (tCons (tVar 3) tNil))) tNil)))) (gName 9))
            (tRet (tTup (tCons (tVar 8) (tCons (tVar 9) (tCons (tCall (spLCells K) [] E0 (tCons (tVar 4) (tCons (tVar 1) (tCons (tVar 2) tNil)))) (tCons (tCall (spLCells K) [] E0 (tCons (tVar 5) (tCons (tVar 1) (tCons (tVar 3) tNil)))) tNil)))))))))
      { nx := fun x H' => Q V.non H', rt := Q } [some (.ref l), some (.ref a), some (.ref pa), some (.ref oa), some (.int f), some (.int b), none, none, none, none] H := by
  have l1 := A1.low
  have l2 := A2.low
  have m1 := A1.high
  have m2 := A2.high
  refine ⟨_, rfl, _, rfl, _, rfl, a, pa, axes, rfl, T1, hz1, fun H1 s1 => ⟨_, _, rfl, rfl, _, rfl, _, rfl, _, rfl, a, oa, axes2, rfl, T2.same s1, hz2, fun H2 s2 => ⟨_, _, rfl, rfl, _, _, rfl, ?_⟩⟩⟩
  have s02 := s1.trans s2
  obtain ⟨la, hla, la1, la2, la3⟩ : ∃ la : Int, (if b + highF axes2 > f + highF axes then b + highF axes2 else f + highF axes) = la ∧ f + highF axes ≤ la ∧ b + highF axes2 ≤ la ∧ la ≤ 4000 := by
    refine ⟨_, rfl, ?_⟩
    split <;> omega
  rw [hla]
  refine ⟨_, rfl, _, _, rfl, rfl, _, rfl, l, ns, 14, 3, rfl, s02.seq hS, hns, by omega, by omega, fun y hy0 hy1 _ => ⟨_, _, rfl, rfl, ?_⟩⟩
  refine ⟨_, rfl, _, rfl, _, rfl, _, rfl, a, pa, _, _, rfl, (T1.same s02).1, (T1.same s02).2, by rw [len_natL, len_intL, List.length_map, List.length_map], by rw [len_natL, List.length_map]; have := (sz_axes hz1).1; exact Nat.le_of_lt (small (by omega)), fun H3 p ts s3 np ep hts _ hex => ?_⟩
  obtain ⟨zs, ez, rfl, hA3⟩ := zip_axes hts hex
  rw [ez] at ep
  refine view_made ep hA3 hz1 ?_ ?_ f0 ?_ fun H4 v1 s4 V1 => ?_
  · omega
  · omega
  · omega
  have s04 := (s02.trans s3).trans s4
  refine ⟨_, rfl, _, rfl, _, rfl, _, rfl, a, oa, _, _, rfl, (T2.same s04).1, (T2.same s04).2, by rw [len_natL, len_intL, List.length_map, List.length_map], by rw [len_natL, List.length_map]; have := (sz_axes hz2).1; exact Nat.le_of_lt (small (by omega)), fun H5 p ts s5 np ep hts _ hex => ?_⟩
  obtain ⟨zs2, ez2, rfl, hA5⟩ := zip_axes hts hex
  rw [ez2] at ep
  refine view_made ep hA5 hz2 ?_ ?_ b0 ?_ fun H6 v2 s6 V2 => ?_
  · omega
  · omega
  · omega
  have s46 := s5.trans s6
  have s06 := s04.trans s46
  refine ⟨_, rfl, _, rfl, _, rfl, _, rfl, _, rfl, a, pa, f, _, rfl, T1.same s06, hz1, fun H7 w1 s7 e7 => ?_⟩
  refine ⟨_, rfl, _, rfl, _, rfl, a, oa, b, _, rfl, T2.same (s06.trans s7), hz2, fun H8 w2 s8 e8 => ?_⟩
  refine ⟨by show 4 ≤ sizeLine; decide, fun t nt => ?_⟩
  have st := same_upd (o := .tup [.ref v1, .ref v2, .ref w1, .ref w2]) nt
  have s68 := s7.trans s8
  exact q _ t v1 v2 w1 w2 _ ((s06.trans s68).trans st) upd_same ((V1.same s46).same (s68.trans st)) (V2.same (s68.trans st)) (st _ _ (s8 _ _ e7)) (st _ _ e8) ⟨A1, f0, by omega⟩ ⟨A2, b0, by omega⟩ (by omega) (by omega)
theorem ok_l_two {f : Addr} {fd : FuncData} (F : Fun K "_law_two" "_law_two" s_l_two f fd) (T : Txt K mg C) (G_l_draw : Cal P w K mg base "_law_draw" 1 ["_law_script", "_law_k", "_law_many"] (spDraw K)) (G_l_once : Cal P w K mg base "_law_once" 2 ["_law_script", "_law_sizes_here"] (spOnce K))
    (G_l_others : Cal P w K mg base "_law_others" 2 ["_law_script", "_law_paces"] (spOthers K)) (G_l_least : Cal P w K mg base "_law_least" 1 ["_law_sizes_here", "_law_paces"] (spLLow K)) (G_l_most : Cal P w K mg base "_law_most" 1 ["_law_sizes_here", "_law_paces"] (spLHigh K))
    (G_l_cells : Cal P w K mg base "_law_cells" 1 ["_law_first", "_law_sizes_here", "_law_paces"] (spLCells K)) (G_View : CalC P w K mg base "View" C 4 ["self", "room", "first", "axes"] (spInit C)) :
    FnOk P w K mg base CX0 6 f fd ["_law_script", "_law_sizes_here"] (spTwo K C) := by
  refine F.ok sc_l_two (fun vs H Q E h => ?_) (fun cdv A outer s H vs Q E hr h => ?_)
  · obtain ⟨l, a, ns, sz, rfl, _⟩ := h
    rfl
  · obtain ⟨l, a, ns, sz, rfl, hS, hns, hA, hz, q⟩ := h
    have hz3 := hz.len
    refine ⟨_, (pss_cons (ps_set (i := 2) sc_l_two.nd rfl (Or.inl rfl) (pe_cal G_l_once hr (by rfl) (pa_cons (pv 0) (pa_cons (pv 1) pa_nil))))
      (pss_cons (ps_set (i := 3) sc_l_two.nd rfl (Or.inl rfl) (pe_cal G_l_others hr (by rfl) (pa_cons (pv 0) (pa_cons (pv 2) pa_nil))))
      (pss_cons (ps_set (i := 4) sc_l_two.nd rfl (Or.inl rfl) (pe_op op_sub (pe_cal G_l_draw hr (by rfl) (pa_cons (pv 0) (pa_cons pe_int (pa_cons pe_int pa_nil)))) (pe_cal G_l_least hr (by rfl) (pa_cons (pv 1) (pa_cons (pv 2) pa_nil)))))
      (pss_cons (ps_set (i := 5) sc_l_two.nd rfl (Or.inl rfl) (pe_op op_sub (pe_cal G_l_draw hr (by rfl) (pa_cons (pv 0) (pa_cons pe_int (pa_cons pe_int pa_nil)))) (pe_cal G_l_least hr (by rfl) (pa_cons (pv 1) (pa_cons (pv 3) pa_nil)))))
      (pss_cons (ps_if (pt_cmpR op_eq (pe_cal G_l_draw hr (by rfl) (pa_cons (pv 0) (pa_cons pe_int (pa_cons pe_int pa_nil)))) pe_int (nomark _)) (pss_one (ps_set (i := 5) sc_l_two.nd rfl (Or.inl rfl) (pe_callB (call_max2 rfl) (by rfl) T.max b_max (pa_cons (pe_op op_add (pv 4) (pe_ix (k_ixl K) (pe_lst (pa_cons pe_int (pa_cons pe_int (pa_cons (pe_un un_neg pe_int) pa_nil)))) (pe_cal G_l_draw hr (by rfl) (pa_cons (pv 0) (pa_cons pe_int (pa_cons pe_int pa_nil)))) (fun _ _ => rfl))) (pa_cons (pe_op op_sub pe_int (pe_cal G_l_least hr (by rfl) (pa_cons (pv 1) (pa_cons (pv 3) pa_nil)))) pa_nil))))) pss_nil)
      (pss_cons (ps_set (i := 6) sc_l_two.nd rfl (Or.inl rfl) (pe_callB (call_max2 rfl) (by rfl) T.max b_max (pa_cons (pe_op op_add (pv 4) (pe_cal G_l_most hr (by rfl) (pa_cons (pv 1) (pa_cons (pv 2) pa_nil)))) (pa_cons (pe_op op_add (pv 5) (pe_cal G_l_most hr (by rfl) (pa_cons (pv 1) (pa_cons (pv 3) pa_nil)))) pa_nil))))
      (pss_cons (ps_set (i := 7) sc_l_two.nd rfl (Or.inl rfl) (pe_op op_add (pe_op op_add (pv 6) pe_int) (pe_cal G_l_draw hr (by rfl) (pa_cons (pv 0) (pa_cons pe_int (pa_cons pe_int pa_nil))))))
      (pss_cons (ps_set (i := 8) sc_l_two.nd rfl (Or.inl rfl) (pe_mk G_View hr (by rfl) (pa_cons (pv 7) (pa_cons (pv 4) (pa_cons (pe_listZip (by rfl) T.list (by rfl) T.zip rfl (pa_cons (pv 1) (pa_cons (pv 2) pa_nil))) pa_nil)))))
      (pss_cons (ps_set (i := 9) sc_l_two.nd rfl (Or.inl rfl) (pe_mk G_View hr (by rfl) (pa_cons (pv 7) (pa_cons (pv 5) (pa_cons (pe_listZip (by rfl) T.list (by rfl) T.zip rfl (pa_cons (pv 1) (pa_cons (pv 3) pa_nil))) pa_nil)))))
      (pss_one (ps_ret (pe_tup (pa_cons (pv 8) (pa_cons (pv 9) (pa_cons (pe_cal G_l_cells hr (by rfl) (pa_cons (pv 4) (pa_cons (pv 1) (pa_cons (pv 2) pa_nil)))) (pa_cons (pe_cal G_l_cells hr (by rfl) (pa_cons (pv 5) (pa_cons (pv 1) (pa_cons (pv 3) pa_nil)))) pa_nil)))))))))))))))), ?_⟩
    refine ⟨_, rfl, _, rfl, l, a, ns, sz, rfl, hS, hns, hA, hz, fun H1 pa ps unit s1 ep I => ?_⟩
    refine ⟨_, rfl, _, rfl, l, pa, ns, ps, rfl, s1.seq hS, hns, ep, by rw [I.len]; exact hz3, I.bd, fun H2 oa qs s2 eo hq hqb => ?_⟩
    obtain ⟨x1, x2⟩ := zip_map (xs := sz) (ys := ps) I.len.symm
    obtain ⟨y1, y2⟩ := zip_map (xs := sz) (ys := qs) (by rw [hq, I.len])
    generalize sz.zip ps = axes at x1 x2
    generalize sz.zip qs = axes2 at y1 y2
    subst x2 y2
    have hz1 : SzOk (axes.map (·.1)) := by rw [x1]; exact hz
    have hz2 : SzOk (axes2.map (·.1)) := by rw [y1]; exact hz
    have A1 : AxOk axes := ⟨(sz_axes hz1).1, fun x hx => (sz_axes hz1).2 x.1 x.2 hx, fun x hx => Nat.le_trans (I.bd _ (List.mem_map.mpr ⟨x, hx, rfl⟩)) (by omega)⟩
    have A2 : AxOk axes2 := ⟨(sz_axes hz2).1, fun x hx => (sz_axes hz2).2 x.1 x.2 hx, fun x hx => hqb _ (List.mem_map.mpr ⟨x, hx, rfl⟩)⟩
    have l1 := A1.low
    have l2 := A2.low
    have m1 := A1.high
    have m2 := A2.high
    have s02 := s1.trans s2
    have T1 : Two K H2 a pa axes := ⟨by rw [x1]; exact s02.seq hA, SqL.of (s2 _ _ ep)⟩
    have T2 : Two K H2 a oa axes2 := ⟨by rw [y1]; exact s02.seq hA, SqL.of eo⟩
    have hS2 := s02.seq hS
    refine ⟨_, rfl, l, ns, 11, 13, rfl, hS2, hns, by omega, by omega, fun z hz0 hz1' _ => ⟨_, rfl, _, rfl, a, pa, axes, rfl, T1, hz1, fun H3 s3 => ⟨_, _, rfl, rfl, ?_⟩⟩⟩
    refine ⟨_, rfl, l, ns, 12, 13, rfl, s3.seq hS2, hns, by omega, by omega, fun u hu0 hu1 _ => ⟨_, rfl, _, rfl, a, oa, axes2, rfl, T2.same s3, hz2, fun H4 s4 => ⟨_, _, rfl, rfl, ?_⟩⟩⟩
    have s24 := s3.trans s4
    refine ⟨_, rfl, l, ns, 13, 4, rfl, s24.seq hS2, hns, by omega, by omega, fun y hy0 hy1 _ => ⟨rfl, _, rfl, ?_⟩⟩
    have s4' := hS2
    refine ite2 (fun _ => ?_) fun _ => ?_
    · refine ⟨_, rfl, _, rfl, by show 3 ≤ sizeLine; decide, fun c nc => ?_⟩
      have sc := same_upd (o := .lst [.int 0, .int 1, .int (-1)]) nc
      have ec : upd H4 c (.lst [.int 0, .int 1, .int (-1)]) c = some (.lst (intL [0, 1, -1])) := upd_same
      have s25 := s24.trans sc
      refine ⟨_, rfl, l, ns, 11, 3, rfl, s25.seq hS2, hns, by omega, by omega, fun k hk0 hk1 _ => ?_⟩
      obtain ⟨x, ex, hx⟩ := pickL (xs := [0, 1, -1]) hk0 (by show k < 3; exact hk1)
      have hxb := (show ∀ x : Int, x ∈ ([0, 1, -1] : List Int) → -1 ≤ x ∧ x ≤ 1 by decide) x hx
      refine ⟨c, _, _, _, rfl, rfl, SqL.of ec, ex, _, _, rfl, rfl, _, rfl, _, rfl, a, oa, axes2, rfl, T2.same s25, hz2, fun H5 s5 => ⟨_, _, rfl, rfl, _, _, rfl, ?_⟩⟩
      have s26 := s25.trans s5
      have hb : 0 ≤ (if 0 - lowF axes2 > z - lowF axes + x then 0 - lowF axes2 else z - lowF axes + x) + lowF axes2 ∧ (if 0 - lowF axes2 > z - lowF axes + x then 0 - lowF axes2 else z - lowF axes + x) ≤ 2500 := by
        split <;> omega
      exact two_tail (s26.seq hS2) hns (T1.same s26) (T2.same s26) hz1 hz2 A1 A2 (by omega) (by omega) hb.1 hb.2 fun H' t v1 v2 w1 w2 r s' et V1 V2 e1 e2 g1 g2 r1 r2 =>
        q H' t v1 v2 w1 w2 r _ _ axes axes2 ((s02.trans s26).trans s') et V1 V2 e1 e2 x1 y1 g1 g2 (once_of I x1) r1 r2
    · exact two_tail (s24.seq hS2) hns (T1.same s24) (T2.same s24) hz1 hz2 A1 A2 (by omega) (by omega) (by omega) (by omega) fun H' t v1 v2 w1 w2 r s' et V1 V2 e1 e2 g1 g2 r1 r2 =>
        q H' t v1 v2 w1 w2 r _ _ axes axes2 ((s02.trans s24).trans s') et V1 V2 e1 e2 x1 y1 g1 g2 (once_of I x1) r1 r2
end
end PH

/-! The walks: the great views. -/
namespace PH
open PySem PySem.Spec PyProof.Rows L2
def byF (ns : List Int) : Int := 1 + drawF ns 15 100000000000000
def moreF (ns : List Int) : Int := drawF ns 16 1000000000
theorem byF_pos (ns : List Int) : 1 ≤ byF ns := by
  have := Int.emod_nonneg (drawRaw ns 15) (show (100000000000000 : Int) ≠ 0 by omega)
  unfold byF drawF
  omega
section
variable {P : Program} {w : World} {K : PySem.W.Frag} {mg : Str → Option Value} {base : Heap} {C : Addr}
def spFar (K : PySem.W.Frag) (C : Addr) : Sp := fun vs H Q _ => ∃ (l p : Addr) (ns : List Int) (r f : Int) (axes : List (Nat × Int)), vs = [.ref l, .ref p] ∧ SqL K H l (intL ns) ∧ ns.length ≤ 63 ∧ VwA C H p r f axes ∧ 0 ≤ f + lowF axes ∧ f + highF axes < r ∧ 1 ≤ r ∧ r ≤ 9999 ∧
  ∀ (H' : Hp) (x : Addr), Same H H' → VwA C H' x (r * byF ns + moreF ns) (f * byF ns + moreF ns) (keptF (farF (byF ns) axes)) → Q (.ref x) H'
theorem ok_l_far {f : Addr} {fd : FuncData} (F : Fun K "_law_far" "_law_far" s_l_far f fd) (T : Txt K mg C) (G_l_draw : Cal P w K mg base "_law_draw" 1 ["_law_script", "_law_k", "_law_many"] (spDraw K)) (G_View : CalC P w K mg base "View" C 4 ["self", "room", "first", "axes"] (spInit C)) :
    FnOk P w K mg base CX0 6 f fd ["_law_script", "_law_view"] (spFar K C) := by
  refine F.ok sc_l_far (fun vs H Q E h => ?_) (fun cdv A outer s H vs Q E hr h => ?_)
  · obtain ⟨l, p, ns, r, f, axes, rfl, _⟩ := h
    rfl
  · obtain ⟨l, p, ns, r, f, axes, rfl, hS, hns, hV, lo, hi, r1, r2, q⟩ := h
    obtain ⟨⟨dx, la, xs, hp, hl, hA, hx⟩, hz⟩ := id hV
    have hb := sz_axes hz
    refine ⟨_, (pss_cons (ps_set (i := 2) sc_l_far.nd rfl (Or.inr rfl) (pe_op op_add pe_int (pe_cal G_l_draw hr (by rfl) (pa_cons (pv 0) (pa_cons pe_int (pa_cons (pe_op op_pow pe_int pe_int) pa_nil))))))
      (pss_cons (ps_set (i := 3) sc_l_far.nd rfl (Or.inl rfl) (pe_cal G_l_draw hr (by rfl) (pa_cons (pv 0) (pa_cons pe_int (pa_cons (pe_op op_pow pe_int pe_int) pa_nil)))))
      (pss_one (ps_ret (pe_mk G_View hr (by rfl) (pa_cons (pe_op op_add (pe_op op_mul (k_fld K (pv 1)) (pv 2)) (pv 3)) (pa_cons (pe_op op_add (pe_op op_mul (k_fld K (pv 1)) (pv 2)) (pv 3)) (pa_cons (pe_lc (own := [("_law_size", 4), ("_law_pace", 5)]) (g := gTup K 2 (gCons (gName 4) (gCons (gName 5) gNil))) (tt := tYes) (by rfl) sc_l_far.nd (k_list K (k_fld K (pv 1)))  (blkOk_by (own := [("_law_size", 4), ("_law_pace", 5)]) (N := N_l_far) (sc := defScope s_l_far) (by decide +kernel)) (fun _ _ _ _ _ => (pg_tup rfl (pgs_cons (pg_name (i := 4) sc_l_far.nd rfl (Or.inl rfl)) (pgs_cons (pg_name (i := 5) sc_l_far.nd rfl (Or.inl rfl)) pgs_nil)))) (fun _ _ _ _ _ => pts_nil) (fun _ _ _ _ _ => (pe_tup (pa_cons (pv 4) (pa_cons (pe_op op_mul (pv 5) (pv 2)) pa_nil))))) pa_nil)))))))), ?_⟩
    refine ⟨_, rfl, _, _, rfl, rfl, ⟨by omega, by omega, by decide⟩, l, ns, 15, 100000000000000, rfl, hS, hns, by omega, by omega, fun y hy0 hy1 ey => ⟨_, _, rfl, rfl, ?_⟩⟩
    refine ⟨_, rfl, _, _, rfl, rfl, ⟨by omega, by omega, by decide⟩, l, ns, 16, 1000000000, rfl, hS, hns, by omega, by omega, fun m hm0 hm1 em => ?_⟩
    have hb0 : 1 ≤ 1 + y := by omega
    have eb : byF ns = 1 + y := by rw [ey]; rfl
    have em' : moreF ns = m := by rw [em]; rfl
    rw [eb, em'] at q
    have hRb : 1 * 1 ≤ r * (1 + y) := Int.mul_le_mul r1 hb0 (by omega) (by omega)
    have hRb2 : r * (1 + y) ≤ 9999 * 100000000000000 := Int.mul_le_mul r2 (by omega) (by omega) (by omega)
    have hlo : 0 ≤ (f + lowF axes) * (1 + y) := Int.mul_nonneg lo (by omega)
    have hhi : (f + highF axes) * (1 + y) < r * (1 + y) := Int.mul_lt_mul_of_pos_right hi (by omega)
    rw [Int.add_mul] at hlo hhi
    refine ⟨_, rfl, p, C, dx, _, _, rfl, hp, T.cl, T.nR, vf_room _ _ _, _, rfl, _, _, rfl, rfl, cmulL (by omega) (by omega), _, rfl, _, _, rfl, rfl, ?_⟩
    refine ⟨_, rfl, p, C, dx, _, _, rfl, hp, T.cl, T.nF, vf_first _ _ _, _, rfl, _, _, rfl, rfl, cmulR (by omega) (by omega), _, rfl, _, _, rfl, rfl, ?_⟩
    refine ⟨_, rfl, p, C, dx, _, _, rfl, hp, T.cl, T.nA, vf_axes _ _ _, la, rfl, ⟨_, SqL.of hl⟩, fun D nD => ?_⟩
    have hxl : xs.length = axes.length := by rw [← hx, List.length_map]
    refine lc_news (α := Nat × Int) AxA axA_same axA_but (walk_list (K := K) (a := la) (xs := refL xs)) (farF (1 + y) axes) (by rw [len_refL, hxl]; unfold farF; rw [List.length_map]) (by rw [len_refL, hxl]; have := hb.1; omega) nD
      (fun H3 s3 => SqL.of (s3 _ _ hl)) (fun i H3 x H4 _ _ y => same_at i H3 x H4 y) (fun i x z H3 H4 R hi' hz' s3 yy s4 hR => ?_) (fun H3 zs s3 hzs hA3 e3 => ?_)
    · obtain ⟨rfl, hx3⟩ := yy
      obtain ⟨a, s, c, rfl, hx2, hm⟩ := sizes_get hx hx3
      have hax : AxA H4 a (s, c) := (hA _ hm).same s3
      unfold farF at hz'
      rw [List.getElem?_map, hx2] at hz'
      have ez : (s, c * (1 + y)) = z := Option.some.inj hz'
      subst ez
      exact ⟨a, _, rfl, SqT.of hax, rfl, _, _, rfl, _, _, rfl, rfl, rfl, _, rfl, _, rfl, _, rfl, _, _, rfl, rfl, cmulR (by omega) (by omega), by show 2 ≤ sizeLine; decide, fun t nt => hR _ t (same_upd nt) upd_same⟩
    · refine view_made e3 hA3 ?_ ?_ ?_ ?_ ?_ fun H4 x s4 V => ?_
      · rw [hzs, sizes_far]; exact hz
      · omega
      · omega
      · rw [hzs, low_far (by omega)]; omega
      · rw [hzs, high_far (by omega)]; omega
      · rw [hzs] at V
        exact q H4 x (s3.trans s4) V
end
end PH

/-! The walks: a walk of the places by an order; the number of a place. -/
namespace PH
open PySem PySem.Spec PyProof.Rows L2
section
variable {K : PySem.W.Frag} {H : Hp} {Q : VK} {a b : Addr} {xs ys : List V} {lo hi : Option Int}
theorem catA_to (ha : H a = some (.tup xs)) (hb : H b = some (.tup ys)) (hz : xs.length + ys.length ≤ sizeLine) (q : ∀ (H' : Hp) (c : Addr), Same H H' → H' c = some (.tup (xs ++ ys)) → Q (.ref c) H') : rCatA K (.ref a) (.ref b) H Q := by
  refine ⟨a, b, xs, ys, rfl, rfl, SqT.of ha, SqT.of hb, hz, fun e => ?_, fun _ e => ?_, fun _ _ p np => q _ p (same_upd np) upd_same⟩
  · subst e
    exact q H b (Same.refl H) hb
  · subst e
    exact q H a (Same.refl H) (by rw [List.append_nil]; exact ha)
theorem slA_to (ha : H a = some (.tup xs)) (q : ∀ (H' : Hp) (c : Addr), Same H H' → H' c = some (.tup (cutV xs lo hi)) → Q (.ref c) H') : rSlA K (.ref a) lo hi H Q := by
  refine ⟨a, xs, rfl, SqT.of ha, fun e => ?_, fun _ p np => q _ p (same_upd np) upd_same⟩
  refine q H a (Same.refl H) ?_
  unfold cutV
  rw [e.1, e.2, List.drop_zero, Nat.sub_zero, List.take_length]
  exact ha
end
theorem rep_zeroN (n : Nat) : (List.replicate n [V.int 0]).flatten = (List.replicate n 0 : Pl).map nI := by
  induction n with
  | zero => rfl
  | succ n ih =>
    rw [List.replicate_succ, List.flatten_cons, ih, List.replicate_succ]
    rfl
theorem natL_reverse (l : List Nat) : (natL l).reverse = natL l.reverse := (List.map_reverse).symm
theorem set_cat : ∀ (p : Pl) (ax k : Nat), ax < p.length → (natL (p.take ax) ++ [nI k]) ++ natL (p.drop (ax + 1)) = natL (p.set ax k)
  | [], _, _, h => by simp at h
  | x :: p, 0, k, _ => rfl
  | x :: p, ax + 1, k, h => congrArg (nI x :: ·) (set_cat p ax k (by simpa using h))
theorem natL_take (l : List Nat) (k : Nat) : (natL l).take k = natL (l.take k) := (List.map_take).symm
theorem natL_drop (l : List Nat) (k : Nat) : (natL l).drop k = natL (l.drop k) := (List.map_drop).symm
theorem walkF_snoc (sz : List Nat) (O : Ord) (row : Nat × Int) : walkF sz (O ++ [row]) = stepW sz (walkF sz O) row := by
  unfold walkF
  rw [List.foldl_append]
  rfl
theorem len_numsBy (s : Nat) (w : Int) : (numsBy s w).length = s := by
  unfold numsBy
  split <;> simp
theorem walkF_len {sz : List Nat} (hz : SzOk sz) : ∀ (O : Ord), (walkF sz O.reverse).length ≤ 6 ^ O.length ∧ ∀ p ∈ walkF sz O.reverse, p.length = sz.length
  | [] => ⟨Nat.le_refl _, fun p hp => by rw [List.mem_singleton.mp hp]; exact List.length_replicate⟩
  | row :: O => by
    obtain ⟨h1, h2⟩ := walkF_len hz O
    rw [List.reverse_cons, walkF_snoc]
    have hs : sz.getD row.1 0 ≤ 6 := by
      by_cases h : row.1 < sz.length
      · exact (hz.bd _ (mem_getD h)).2
      · rw [List.getD_eq_getElem?_getD, List.getElem?_eq_none (by omega)]
        exact Nat.zero_le _
    unfold stepW
    refine ⟨?_, fun p hp => ?_⟩
    · rw [len_flatMap _ (sz.getD row.1 0) _ fun p _ => by rw [List.length_map, len_numsBy], List.length_cons, Nat.pow_succ]
      exact Nat.mul_le_mul h1 hs
    · obtain ⟨q, hq, hp⟩ := List.mem_flatMap.mp hp
      obtain ⟨k, _, rfl⟩ := List.mem_map.mp hp
      rw [List.length_set]
      exact h2 q hq
theorem walkF_take {sz : List Nat} (hz : SzOk sz) (O : Ord) (i : Nat) (h : O.length ≤ 3) : (walkF sz (O.take i)).length ≤ 216 ∧ ∀ p ∈ walkF sz (O.take i), p.length = sz.length := by
  have k := walkF_len hz (O.take i).reverse
  rw [List.reverse_reverse, List.length_reverse, List.length_take] at k
  refine ⟨Nat.le_trans k.1 ?_, k.2⟩
  have : 6 ^ min i O.length ≤ 6 ^ 3 := Nat.pow_le_pow_right (by decide) (by omega)
  exact this
/-- an order stands at o -/
def OrdA (H : Hp) (o : Addr) (O : Ord) : Prop := ∃ rows : List (Addr × (Nat × Int)), H o = some (.lst (refL rows)) ∧ AllA AxA H rows ∧ rows.map (·.2) = O
theorem OrdA.same {H H' : Hp} {o : Addr} {O : Ord} (h : OrdA H o O) (s : Same H H') : OrdA H' o O := by
  obtain ⟨rows, e, a, r⟩ := h
  exact ⟨rows, s _ _ e, a.imp fun b x k => k.same s, r⟩
section
variable {P : Program} {w : World} {K : PySem.W.Frag} {mg : Str → Option Value} {base : Heap} {C : Addr}
def spWalk (K : PySem.W.Frag) : Sp := fun vs H Q _ => ∃ (a o : Addr) (sz : List Nat) (O : Ord), vs = [.ref a, .ref o] ∧ SqL K H a (natL sz) ∧ SzOk sz ∧ OrdA H o O ∧ IsOrder sz.length O ∧
  ∀ (H' : Hp) (l : Addr) (ps : List (Addr × Pl)), Same H H' → H' l = some (.lst (refL ps)) → AllA PlA H' ps → ps.map (·.2) = walkF sz O → Q (.ref l) H'
theorem ok_l_walk {f : Addr} {fd : FuncData} (F : Fun K "_law_walk" "_law_walk" s_l_walk f fd) (T : Txt K mg C) : FnOk P w K mg base CX0 1 f fd ["_law_sizes_here", "_law_order"] (spWalk K) := by
  refine F.ok sc_l_walk (fun vs H Q E h => ?_) (fun cdv A outer s H vs Q E hr h => ?_)
  · obtain ⟨a, o, sz, O, rfl, _⟩ := h
    rfl
  · obtain ⟨a, o, sz, O, rfl, hS, hz, ⟨rows, eo, hR, hrows⟩, hO, q⟩ := h
    have hz3 := hz.len
    have hOl := hO.len
    refine ⟨_, (pss_cons (ps_set (i := 2) sc_l_walk.nd rfl (Or.inl rfl) (pe_lst (pa_cons (pe_callTy call_tuple_of (by rfl) T.tuple b_tuple (pa_cons (pe_op op_rep (pe_lst (pa_cons pe_int pa_nil)) (pe_callB call_len_seq (by rfl) T.len b_len (pa_cons (pv 0) pa_nil))) pa_nil)) pa_nil)))
      (pss_cons (ps_for PassesOwn.never rfl (k_list K (pv 1)) (pg_tup rfl (pgs_cons (pg_name (i := 3) sc_l_walk.nd rfl (Or.inr rfl)) (pgs_cons (pg_name (i := 4) sc_l_walk.nd rfl (Or.inl rfl)) pgs_nil))) (pss_cons (ps_set (i := 5) sc_l_walk.nd rfl (Or.inl rfl) (pe_listRg rfl (by rfl) T.list (prg_1 (by rfl) T.range (pe_ix (k_ixl K) (pv 0) (pv 3) (fun _ _ => rfl)))))
      (pss_cons (ps_if (pt_cmpR op_eq (pv 4) (pe_un un_neg pe_int) (nomark _)) (pss_one (ps_expr (pe_bm0 PySem.F.plainAttrs_list PySem.F.slot_list_reverse PySem.F.type_list_reverse mt_reverse (pv 5)))) pss_nil)
      (pss_cons (ps_set (i := 6) sc_l_walk.nd rfl (Or.inl rfl) (pe_lst pa_nil))
      (pss_cons (ps_for PassesOwn.never rfl (k_list K (pv 2)) (pg_name (i := 7) sc_l_walk.nd rfl (Or.inr rfl)) (pss_one (ps_expr (pe_bm PySem.F.plainAttrs_list PySem.F.slot_list_extend PySem.F.type_list_extend mt_extend (pv 6) (pa_cons (pe_lc (own := [("_law_k", 8)]) (g := gName 8) (tt := tYes) (by rfl) sc_l_walk.nd (k_list K (pv 5))  (blkOk_by (own := [("_law_k", 8)]) (N := N_l_walk) (sc := defScope s_l_walk) (by decide +kernel)) (fun _ _ _ _ _ => (pg_name (i := 8) sc_l_walk.nd rfl (Or.inl rfl))) (fun _ _ _ _ _ => pts_nil) (fun _ _ _ _ _ => (pe_op (k_catA K) (pe_op (k_catA K) (pe_slice (k_slA K) (pv 7) po_none (po_some (pv 3))) (pe_tup (pa_cons (pv 8) pa_nil))) (pe_slice (k_slA K) (pv 7) (po_some (pe_op op_add (pv 3) pe_int)) po_none)))) pa_nil)))))
      (pss_one (ps_set (i := 2) sc_l_walk.nd rfl (Or.inl rfl) (pv 6))))))))
      (pss_one (ps_ret (pv 2))))), ?_⟩
    refine ⟨by show 1 ≤ sizeLine; decide, fun z nz => ?_⟩
    have s1 : Same H (upd H z (.lst [.int 0])) := same_upd nz
    refine ⟨_, rfl, a, _, rfl, .inl (s1.seq hS), ?_⟩
    rw [len_natL]
    refine ⟨z, _, _, rfl, rfl, upd_same, by omega, by omega, by rw [Int.toNat_natCast]; show 1 * sz.length ≤ sizeLine; exact Nat.le_of_lt (small (by omega)), fun p np => ?_⟩
    rw [Int.toNat_natCast, rep_zeroN]
    have s2 := s1.trans (same_upd (o := .lst ((List.replicate sz.length 0 : Pl).map nI)) np)
    refine ⟨p, _, rfl, .inl ⟨SqL.of upd_same, fun t nt => ?_⟩⟩
    have s3 := s2.trans (same_upd (o := .tup ((List.replicate sz.length 0 : Pl).map nI)) nt)
    refine ⟨by show 1 ≤ sizeLine; decide, fun l nl => ?_⟩
    have sl := same_upd (o := .lst [.ref t]) nl
    have s4 := s3.trans sl
    have et := sl _ _ (upd_same (H := upd (upd H z (.lst [.int 0])) p (.lst ((List.replicate sz.length 0 : Pl).map nI))) (a := t) (o := .tup ((List.replicate sz.length 0 : Pl).map nI)))
    refine ⟨_, rfl, o, rfl, ⟨_, SqL.of (s4 _ _ eo)⟩, for_list (K := K) (a := o) (xs := refL rows) (fun i σ H2 => ∃ (lf : Addr) (ps : List (Addr × Pl)) (v3 v4 v5 v6 v7 : Option V), σ = [some (.ref a), some (.ref o), some (.ref lf), v3, v4, v5, v6, v7, none] ∧
        Same H H2 ∧ H2 lf = some (.lst (refL ps)) ∧ AllA PlA H2 ps ∧ ps.map (·.2) = walkF sz (O.take i))
      ⟨l, [(t, List.replicate sz.length 0)], none, none, none, none, none, rfl, s4, upd_same, fun x hx => by rw [List.mem_singleton.mp hx]; exact et, rfl⟩ (fun i σ H2 _ ⟨_, _, _, _, _, _, _, _, s2, _⟩ => SqL.of (s2 _ _ eo)) ?_ ?_⟩
    · rintro i y σ H2 hi ⟨lf, ps, v3, v4, v5, v6, v7, rfl, s2, ef, hA, hps⟩
      obtain ⟨ra, ax, wy, rfl, hx2, hm⟩ := sizes_get hrows hi
      have hax : ax < sz.length := hO.lt _ (List.mem_of_getElem? hx2)
      have hra : AxA H2 ra (ax, wy) := (hR _ hm).same s2
      have hwl := walkF_take hz O i (by omega)
      have hpl : ps.length ≤ 216 := by
        have := congrArg List.length hps
        rw [List.length_map] at this
        omega
      have hsb := hz.bd _ (List.getElem_mem hax)
      have esz : sz.getD ax 0 = sz[ax] := by rw [List.getD_eq_getElem?_getD, List.getElem?_eq_getElem hax]; rfl
      refine ⟨ra, _, rfl, SqT.of hra, rfl, _, _, rfl, _, _, rfl, rfl, ?_⟩
      refine ⟨_, rfl, _, rfl, a, _, _, _, rfl, rfl, s2.seq hS, atI_nat (natL_at hax), _, rfl, .of_le (by omega) (by omega) (by omega) (by omega), fun nq nn => ?_⟩
      rw [rg_nat, ← esz]
      have sn := same_upd (o := .lst (natL (List.range (sz.getD ax 0)))) nn
      have en : upd H2 nq (.lst (natL (List.range (sz.getD ax 0)))) nq = some (.lst (natL (List.range (sz.getD ax 0)))) := upd_same
      have s3 := s2.trans sn
      have ef3 := sn _ _ ef
      have hA3 : AllA PlA (upd H2 nq (.lst (natL (List.range (sz.getD ax 0))))) ps := hA.imp fun b x k => k.same sn
      have nqH : H nq = none := Same.free s2 nn
      have nlq : lf ≠ nq := ne_of_none ef nn
      generalize upd H2 nq (.lst (natL (List.range (sz.getD ax 0)))) = H3 at sn en s3 ef3 hA3 ⊢
      refine ⟨_, rfl, _, rfl, rfl, _, rfl, ?_⟩
      refine ite2 (fun hw => ?pos) fun hw => ?neg
      case' pos =>
        have hw' : wy = -1 := by
          have := of_decide_eq_true hw
          injection this
        refine ⟨_, rfl, .inl ⟨rfl, _, SqL.of en⟩, nq, _, rfl, rfl, en, ?_⟩
        rw [natL_reverse]
        have b4 : But nq H3 (upd H3 nq (.lst (natL (List.range (sz.getD ax 0)).reverse))) := But.upd _ _ _
        have eN : upd H3 nq (.lst (natL (List.range (sz.getD ax 0)).reverse)) nq = some (.lst (natL (numsBy (sz.getD ax 0) wy))) := by
          rw [upd_same]; unfold numsBy; rw [if_pos hw']
        have s5 := Same.butNew s3 b4 nqH
        have ef5 := b4 _ _ ef3 nlq
        have hA5 : AllA PlA (upd H3 nq (.lst (natL (List.range (sz.getD ax 0)).reverse))) ps := hA3.imp fun b x k => b4.pl en (fun z => z) k
        generalize upd H3 nq (.lst (natL (List.range (sz.getD ax 0)).reverse)) = H5 at b4 eN s5 ef5 hA5 ⊢
        clear b4 hw'
      case' neg =>
        have eN : H3 nq = some (.lst (natL (numsBy (sz.getD ax 0) wy))) := by
          rw [en]; unfold numsBy; rw [if_neg]
          intro e
          exact hw (decide_eq_true (congrArg V.int e))
        have s5 := s3
        have ef5 := ef3
        have hA5 := hA3
        obtain ⟨H5, e5⟩ : ∃ H5, H5 = H3 := ⟨_, rfl⟩
        rw [← e5] at eN s5 ef5 hA5 ⊢
      all_goals
        refine ⟨Nat.zero_le _, fun g ng => ?_⟩
        have sg : Same H5 (upd H5 g (.lst [])) := same_upd ng
        refine ⟨_, rfl, lf, rfl, ⟨_, SqL.of (sg _ _ ef5)⟩, for_list (K := K) (a := lf) (xs := refL ps) (fun j σ H6 => ∃ (qs : List (Addr × Pl)) (v7 : Option V), σ = [some (.ref a), some (.ref o), some (.ref lf), some (nI ax), some (.int wy), some (.ref nq), some (.ref g), v7, none] ∧
            Same H5 H6 ∧ H6 g = some (.lst (refL qs)) ∧ AllA PlA H6 qs ∧ qs.map (·.2) = ((ps.map (·.2)).take j).flatMap (fun p => (numsBy (sz.getD ax 0) wy).map fun k => p.set ax k))
          ⟨[], v7, rfl, sg, upd_same, AllA.nil, rfl⟩ (fun j σ H6 _ ⟨_, _, _, s6, _⟩ => SqL.of (s6 _ _ ef5)) ?_ ?_⟩
        · rintro j y σ H6 hj ⟨qs, v7, rfl, s6, eg, hQs, hqs⟩
          obtain ⟨pa, p, e1, rfl, e3⟩ := refL_get hj
          have hpa : PlA H6 pa p := (hA5 _ (List.mem_of_getElem? e1)).same s6
          have hjl : j < ps.length := by rw [← len_refL]; exact (List.getElem?_eq_some_iff.mp hj).1
          have hln : ∀ p : Pl, ((numsBy (sz.getD ax 0) wy).map fun k => p.set ax k).length = sz.getD ax 0 := fun p => by rw [List.length_map, len_numsBy]
          have hql : qs.length ≤ 1296 := by
            have h1 := congrArg List.length hqs
            rw [List.length_map, len_flatMap _ (sz.getD ax 0) _ fun p _ => hln p, List.length_take, List.length_map] at h1
            have h2 : min j ps.length * sz.getD ax 0 ≤ 216 * 6 := Nat.mul_le_mul (by omega) (by omega)
            omega
          have hplen : p.length = sz.length := hwl.2 p (by rw [← hps]; exact List.mem_of_getElem? e3)
          refine ⟨_, rfl, .inl ⟨rfl, _, SqL.of eg⟩, _, rfl, nq, rfl, ⟨_, SqL.of (s6 _ _ eN)⟩, fun D nD => ?_⟩
          refine lc_news (α := Pl) PlA plA_same plA_but (walk_list (K := K) (a := nq) (xs := natL (numsBy (sz.getD ax 0) wy))) ((numsBy (sz.getD ax 0) wy).map fun k => p.set ax k) (by rw [List.length_map, len_natL]) (by rw [len_natL, len_numsBy]; omega) nD
            (fun H7 s7 => SqL.of (s7 _ _ (s6 _ _ eN))) (fun k H7 x H8 _ _ y => same_at k H7 x H8 y) (fun k x z H7 H8 R hk hz' s7 y s8 hR => ?_) (fun H7 l7 s7 hl7 hA7 e7 => ?_)
          · obtain ⟨rfl, hx⟩ := y
            obtain ⟨n, hn, rfl⟩ := natL_get hx
            rw [List.getElem?_map, hn] at hz'
            have ez : p.set ax n = z := Option.some.inj hz'
            subst ez
            have hp8 : H8 pa = some (.tup (natL p)) := hpa.same s7
            refine ⟨rfl, _, rfl, _, rfl, ax, rfl, slA_to hp8 fun H9 c s9 e9 => ?_⟩
            rw [cut_take (by rw [len_natL]; omega), natL_take] at e9
            refine ⟨_, rfl, by show 1 ≤ sizeLine; decide, fun t nt => ?_⟩
            have st := same_upd (o := .tup [nI n]) nt
            refine catA_to (st _ _ e9) upd_same (by rw [len_natL, List.length_take]; show _ + 1 ≤ _; exact Nat.le_of_lt (small (by omega))) fun H10 c2 s10 e10 => ?_
            have s8x := (s9.trans st).trans s10
            refine ⟨_, rfl, _, rfl, _, _, rfl, rfl, ((ax + 1 : Nat) : Int), by rw [Int.natCast_add]; rfl, ?_⟩
            refine slA_to (K := K) (Q := fun y H2 => rCatA K (V.ref c2) y H2 R) (lo := some ((ax + 1 : Nat) : Int)) (hi := none) (s8x _ _ hp8) fun H11 c3 s11 e11 => ?_
            rw [cut_drop (by rw [len_natL]; omega), natL_drop] at e11
            refine catA_to (s11 _ _ e10) e11 (by rw [List.length_append, len_natL, len_natL, List.length_take, List.length_drop]; show _ + 1 + _ ≤ _; exact Nat.le_of_lt (small (by omega))) fun H12 u s12 e12 => ?_
            rw [set_cat p ax n (by omega)] at e12
            exact hR H12 u ((s8x.trans s11).trans s12) e12
          · have eg7 := s7 _ _ eg
            have hl7' : l7.length = sz.getD ax 0 := by
              have := congrArg List.length hl7
              rw [List.length_map, hln] at this
              exact this
            have b7 : But g H7 (upd H7 g (.lst (refL qs ++ refL l7))) := But.upd _ _ _
            refine ⟨g, D, _, _, rfl, rfl, eg7, e7, by rw [len_refL, len_refL]; exact Nat.le_of_lt (small (by omega)), qs ++ l7, some (.ref pa), rfl, Same.butNew (s6.trans s7) b7 ng, ?_, ?_, ?_⟩
            · rw [upd_same, refL_append]
            · exact ((hQs.imp fun b z k => plA_same _ _ _ _ s7 k).append hA7).imp fun b z k => b7.pl eg7 (fun z => z) k
            · rw [List.map_append, hqs, hl7, flat_take_snoc _ e3]
        · rintro σ H6 ⟨qs, v7, rfl, s6, eg, hQs, hqs⟩
          refine ⟨_, rfl, g, qs, _, _, _, _, _, rfl, s5.trans s6, eg, hQs, ?_⟩
          rw [hqs, len_refL, show ps.length = (ps.map (·.2)).length by rw [List.length_map], List.take_length, hps, take_snoc hx2, walkF_snoc]
          rfl
    · rintro σ H2 ⟨lf, ps, v3, v4, v5, v6, v7, rfl, s2, ef, hA, hps⟩
      rw [len_refL, show rows.length = O.length by rw [← hrows, List.length_map], List.take_length] at hps
      exact ⟨_, rfl, q H2 lf ps s2 ef hA hps⟩
end
end PH

/-! The walks: a place's number; whether an order keeps. -/
namespace PH
open PySem PySem.Spec PyProof.Rows L2
theorem numF_at {sz : List Nat} {p : Pl} {i s k n : Nat} (hs : sz[i]? = some s) (hk : p[i]? = some k) : numF n (sz.drop i) (p.drop i) = numF (n * s + k) (sz.drop (i + 1)) (p.drop (i + 1)) := by
  obtain ⟨h1, e1⟩ := List.getElem?_eq_some_iff.mp hs
  obtain ⟨h2, e2⟩ := List.getElem?_eq_some_iff.mp hk
  rw [List.drop_eq_getElem_cons h1, List.drop_eq_getElem_cons h2, e1, e2]
  rfl
theorem numF_nil (n : Nat) (p : Pl) : numF n [] p = n := by
  unfold numF
  rfl
theorem sub_len {α : Type} [DecidableEq α] : ∀ (l m : List α), l.Nodup → (∀ x ∈ l, x ∈ m) → l.length ≤ m.length
  | [], _, _, _ => Nat.zero_le _
  | a :: l, m, hn, h => by
    have ha := h a List.mem_cons_self
    have h1 := sub_len l (m.erase a) (List.nodup_cons.mp hn).2 fun x hx => by
      have hxa : x ≠ a := fun e => (List.nodup_cons.mp hn).1 (e ▸ hx)
      exact (List.mem_erase_of_ne hxa).mpr (h x (List.mem_cons_of_mem _ hx))
    have e := List.length_erase_of_mem ha
    have hp : 0 < m.length := List.length_pos_of_mem ha
    rw [List.length_cons]
    omega
theorem held_none {w r : Pl → Int} {L : List Pl} {x : Int} (h : ∀ p ∈ L, w p ≠ x) : held w r L x = none := by
  have e : held w r L = heldR w r L.reverse := by
    unfold held heldR
    rw [List.foldl_eq_foldr_reverse]
  rw [e]
  exact heldR_none fun p hp => h p (List.mem_reverse.mp hp)
theorem cells_at (f : Int) (axes : List (Nat × Int)) : cellsF f axes = (placesR (axes.map (·.1))).map (cl f axes) := by
  unfold cellsF
  rw [cellsF_eq]
section
variable {P : Program} {w : World} {K : PySem.W.Frag} {mg : Str → Option Value} {base : Heap} {C : Addr}
def spLNum (K : PySem.W.Frag) : Sp := fun vs H Q _ => ∃ (a b : Addr) (sz : List Nat) (p : Pl), vs = [.ref a, .ref b] ∧ SqL K H a (natL sz) ∧ PlA H b p ∧ IsPl sz p ∧ SzOk sz ∧ ∀ (H' : Hp), Same H H' → Q (nI (numF 0 sz p)) H'
theorem ok_l_number {f : Addr} {fd : FuncData} (F : Fun K "_law_number" "_law_number" s_l_number f fd) (T : Txt K mg C) : FnOk P w K mg base CX0 1 f fd ["_law_sizes_here", "_law_place"] (spLNum K) := by
  refine F.ok sc_l_number (fun vs H Q E h => ?_) (fun cdv A outer s H vs Q E hr h => ?_)
  · obtain ⟨a, b, sz, p, rfl, _⟩ := h
    rfl
  · obtain ⟨a, b, sz, p, rfl, hS, hp, hpl, hz, q⟩ := h
    have hT : SqT K H b (p.map nI) := SqT.of hp
    refine ⟨_, (pss_cons (ps_set (i := 2) sc_l_number.nd rfl (Or.inl rfl) pe_int)
      (pss_cons (ps_for PassesOwn.never rfl (pi_zipX false true (by rfl) T.zip (pa_cons (pv 0) (pa_cons (pv 1) pa_nil))) (pg_tup rfl (pgs_cons (pg_name (i := 3) sc_l_number.nd rfl (Or.inl rfl)) (pgs_cons (pg_name (i := 4) sc_l_number.nd rfl (Or.inl rfl)) pgs_nil))) (pss_one (ps_set (i := 2) sc_l_number.nd rfl (Or.inl rfl) (pe_op op_add (pe_op op_mul (pv 2) (pv 3)) (pv 4)))))
      (pss_one (ps_ret (pv 2))))), ?_⟩
    refine ⟨_, rfl, _, rfl, a, b, natL sz, p.map nI, rfl, hS, hT, for_it (walk_zipX (K := K) (t := false) (u := true) (a := a) (b := b) (xs := natL sz) (ys := p.map nI) (by rw [List.length_map, List.length_map, hpl.len])) (fun i σ H2 => ∃ (n : Nat) (v3 v4 : Option V), σ = [some (.ref a), some (.ref b), some (nI n), v3, v4] ∧ Same H H2 ∧ numF n (sz.drop i) (p.drop i) = numF 0 sz p)
      ⟨0, none, none, rfl, Same.refl H, rfl⟩ (fun i σ H2 _ ⟨_, _, _, _, s2, _⟩ => ⟨s2.seq hS, SqT.of (hp.same s2)⟩) ?_ ?_⟩
    · rintro i y σ H2 H3 hi ⟨n, v3, v4, rfl, s2, en⟩ ⟨t, x1, x2, rfl, nt, rfl, hx, hy⟩
      obtain ⟨s, hs, rfl⟩ := natL_get hx
      obtain ⟨k, hk, rfl⟩ := natL_get (l := p) hy
      have hsb := hz.bd s (List.mem_of_getElem? hs)
      refine ⟨t, _, rfl, SqT.of upd_same, rfl, _, _, rfl, _, _, rfl, rfl, ?_⟩
      refine ⟨_, rfl, _, rfl, _, _, rfl, rfl, cmulR (by omega) (by omega), _, rfl, _, _, rfl, rfl, n * s + k, some (nI s), some (nI k), ?_, s2.trans (same_upd nt), ?_⟩
      · show [some (V.ref a), some (V.ref b), some (V.int ((n : Int) * (s : Int) + (k : Int))), some (nI s), some (nI k)] = _
        rw [show ((n : Int) * (s : Int) + (k : Int)) = ((n * s + k : Nat) : Int) by rw [Int.natCast_add, Int.natCast_mul]]
        rfl
      · rw [← numF_at hs hk]
        exact en
    · rintro σ H2 ⟨n, v3, v4, rfl, s2, en⟩
      rw [len_natL, List.drop_length, numF_nil] at en
      rw [en]
      exact ⟨_, rfl, q H2 s2⟩
/-! _law_keeps -/
def spKeeps (K : PySem.W.Frag) : Sp := fun vs H Q _ => ∃ (a o lw lr : Addr) (sz : List Nat) (O : Ord) (f f2 : Int) (axes axes2 : List (Nat × Int)), vs = [.ref a, .ref o, .ref lw, .ref lr] ∧ SqL K H a (natL sz) ∧ SzOk sz ∧ OrdA H o O ∧ IsOrder sz.length O ∧ H lw = some (.lst (intL (cellsF f axes))) ∧ H lr = some (.lst (intL (cellsF f2 axes2))) ∧
  axes.map (·.1) = sz ∧ axes2.map (·.1) = sz ∧ Once f axes ∧ ∀ (H' : Hp) (b : Bool), Same H H' → (b = true ↔ Kp sz (cl f axes) (cl f2 axes2) O) → Q (.bl b) H'
theorem ok_l_keeps {f : Addr} {fd : FuncData} (F : Fun K "_law_keeps" "_law_keeps" s_l_keeps f fd) (T : Txt K mg C) (G_l_walk : Cal P w K mg base "_law_walk" 1 ["_law_sizes_here", "_law_order"] (spWalk K)) (G_l_number : Cal P w K mg base "_law_number" 1 ["_law_sizes_here", "_law_place"] (spLNum K)) :
    FnOk P w K mg base CX0 2 f fd ["_law_sizes_here", "_law_order", "_law_writes", "_law_reads"] (spKeeps K) := by
  refine F.ok sc_l_keeps (fun vs H Q E h => ?_) (fun cdv A outer s H vs Q E hr h => ?_)
  · obtain ⟨a, o, lw, lr, sz, O, f, f2, axes, axes2, rfl, _⟩ := h
    rfl
  · obtain ⟨a, o, lw, lr, sz, O, f, f2, axes, axes2, rfl, hS, hz, hO, hOr, ew, er, x1, x2, ho, q⟩ := h
    have ho' : ∀ p p', IsPl sz p → IsPl sz p' → cl f axes p = cl f axes p' → p = p' := fun p p' h1 h2 => ho p p' (by rw [x1]; exact h1) (by rw [x1]; exact h2)
    rw [cells_at, x1] at ew
    rw [cells_at, x2] at er
    generalize cl f axes = wF at ew ho' q
    generalize cl f2 axes2 = rF at er q
    have hpr := hz.prod
    have hN := len_placesR sz
    refine ⟨_, (pss_cons (ps_set (i := 4) sc_l_keeps.nd rfl (Or.inl rfl) pe_dnewK)
      (pss_cons (ps_set (i := 5) sc_l_keeps.nd rfl (Or.inl rfl) pe_dnewK)
      (pss_cons (ps_for PassesOwn.never rfl (pi_range1 rfl T.range (pa_cons (pe_callB call_len_seq (by rfl) T.len b_len (pa_cons (pv 2) pa_nil)) pa_nil)) (pg_name (i := 6) sc_l_keeps.nd rfl (Or.inl rfl)) (pss_one (ps_dput (hu_of hr) (pv 5) (pe_ix (k_ixl K) (pv 2) (pv 6) (fun _ _ => rfl)) (pe_ix (k_ixl K) (pv 3) (pv 6) (fun _ _ => rfl)) rfl)))
      (pss_cons (ps_for PassesOwn.never rfl (k_list K (pe_cal G_l_walk hr (by rfl) (pa_cons (pv 0) (pa_cons (pv 1) pa_nil)))) (pg_name (i := 7) sc_l_keeps.nd rfl (Or.inl rfl)) (pss_cons (ps_set (i := 6) sc_l_keeps.nd rfl (Or.inl rfl) (pe_cal G_l_number hr (by rfl) (pa_cons (pv 0) (pa_cons (pv 7) pa_nil))))
      (pss_one (ps_dput (hu_of hr) (pv 4) (pe_ix (k_ixl K) (pv 2) (pv 6) (fun _ _ => rfl)) (pe_dget2 (hu_of hr) (pv 4) (pe_ix (k_ixl K) (pv 3) (pv 6) (fun _ _ => rfl)) (pe_ix (k_ixl K) (pv 3) (pv 6) (fun _ _ => rfl)) ⟨by rfl, by rfl, by rfl, by rfl⟩) rfl))))
      (pss_one (ps_ret (pe_cmpR (op_eq_ints hr.units0) (pv 4) (pv 5) (nomark _)))))))), ?_⟩
    intro d1 nd1
    have sd1 : Same H (upd H d1 (.dK [])) := same_upd nd1
    intro d2 nd2
    have sd2 : Same (upd H d1 (.dK [])) (upd (upd H d1 (.dK [])) d2 (.dK [])) := same_upd nd2
    have nd2H : H d2 = none := Same.free sd1 nd2
    have n12 : d1 ≠ d2 := ne_of_none upd_same nd2
    have s2 := sd1.trans sd2
    refine ⟨_, rfl, lw, _, rfl, .inl (SqL.of (s2 _ _ ew)), ?_⟩
    rw [len_intL, List.length_map]
    refine ⟨_, rfl, by omega, by omega, for_it (walk_range (lo := 0) (n := (placesR sz).length)) (fun i σ H3 => ∃ (v6 : Option V) (kvs : List (Key × V)), σ = [some (.ref a), some (.ref o), some (.ref lw), some (.ref lr), some (.ref d1), some (.ref d2), v6, none] ∧ Same H H3 ∧ H3 d1 = some (.dK []) ∧ H3 d2 = some (.dK kvs) ∧ kvs.length = i ∧
        (∀ p ∈ (placesR sz).take i, valV kvs (Sum.inl (wF p) : Key) = some (.int (rF p))) ∧ ∀ x : Int, (∀ p ∈ (placesR sz).take i, wF p ≠ x) → valV kvs (Sum.inl x : Key) = none)
      ⟨none, [], rfl, s2, sd2 _ _ upd_same, upd_same, rfl, (fun p h => by simp at h), fun _ _ => rfl⟩ (fun _ _ _ _ _ => trivial) ?_ ?_⟩
    · rintro i y σ H3 H4 hi ⟨v6, kvs, rfl, s3, e1, e2, hk, k1, k2⟩ hy
      obtain ⟨rfl, rfl⟩ := rngY hy
      have hp : (placesR sz)[i]? = some (placesR sz)[i] := List.getElem?_eq_getElem hi
      generalize (placesR sz)[i] = p at hp
      have hpm := mem_placesR.mp (List.mem_of_getElem? hp)
      have eW : (intL ((placesR sz).map wF))[i]? = some (.int (wF p)) := by rw [List.getElem?_map, List.getElem?_map, hp]; rfl
      have eR : (intL ((placesR sz).map rF))[i]? = some (.int (rF p)) := by rw [List.getElem?_map, List.getElem?_map, hp]; rfl
      have hnew : valV kvs (Sum.inl (wF p) : Key) = none := k2 _ fun p' hp' e => notin_take (nodup_placesR sz) hp (by
        have : p' = p := ho' p' p (mem_placesR.mp (List.mem_of_mem_take hp')) hpm e
        rw [← this]; exact hp')
      refine ⟨_, rfl, _, rfl, lr, _, _, _, rfl, rfl, SqL.of (s3 _ _ er), atI_nat eR, _, rfl, _, rfl, _, rfl, lw, _, _, _, rfl, rfl, SqL.of (s3 _ _ ew), atI_nat eW, d2, _, rfl, DPut.k (k := Sum.inl (wF p)) e2 (small (by omega)), ?_⟩
      have b4 : But d2 H4 (upd H4 d2 (.dK (putK kvs (Sum.inl (wF p) : Key) (.int (rF p))))) := But.upd _ _ _
      refine ⟨_, _, rfl, Same.butNew s3 b4 nd2H, b4 _ _ e1 n12, upd_same, ?_, fun p' hp' => ?_, fun x hx => ?_⟩
      · rw [putK_new _ hnew, List.length_append, hk]
        rfl
      · rw [valV_put]
        rw [take_snoc hp] at hp'
        by_cases e : (Sum.inl (wF p') : Key) = Sum.inl (wF p)
        · rw [if_pos e]
          have e' : wF p' = wF p := by injection e
          have hm' : IsPl sz p' := by
            rcases List.mem_append.mp hp' with h | h
            · exact mem_placesR.mp (List.mem_of_mem_take h)
            · rw [List.mem_singleton.mp h]; exact hpm
          rw [ho' p' p hm' hpm e']
        · rw [if_neg e]
          rcases List.mem_append.mp hp' with h | h
          · exact k1 p' h
          · exact absurd (by rw [List.mem_singleton.mp h]) e
      · rw [take_snoc hp] at hx
        rw [valV_put, if_neg (fun e => hx p (List.mem_append_right _ (List.mem_singleton_self _)) (by injection e with e; exact e.symm))]
        exact k2 x fun p' hp' => hx p' (List.mem_append_left _ hp')
    · rintro σ H3 ⟨v6, kvs, rfl, s3, e1, e2, hk, k1, _⟩
      rw [List.take_length] at k1
      refine ⟨_, rfl, _, rfl, a, o, sz, O, rfl, s3.seq hS, hz, hO.same s3, hOr, fun H4 l ps s4 el hP hps => ?_⟩
      have nd : (walkF sz O).Nodup := nodup_walkF hOr
      have memW : ∀ p, p ∈ walkF sz O ↔ IsPl sz p := fun p => mem_walkF hOr
      have hlen : (walkF sz O).length = (placesR sz).length := Nat.le_antisymm (sub_len _ _ nd fun p hp => mem_placesR.mpr ((memW p).mp hp)) (sub_len _ _ (nodup_placesR sz) fun p hp => (memW p).mpr (mem_placesR.mp hp))
      have hpsl : ps.length = (walkF sz O).length := by rw [← hps, List.length_map]
      have wI : ∀ p ∈ walkF sz O, ∀ p' ∈ walkF sz O, wF p = wF p' → p = p' := fun p h1 p' h2 => ho' p p' ((memW p).mp h1) ((memW p').mp h2)
      refine ⟨l, rfl, ⟨_, SqL.of el⟩, for_list (K := K) (a := l) (xs := refL ps) (fun i σ H5 => ∃ (v6 v7 : Option V) (hs : List (Key × V)), σ = [some (.ref a), some (.ref o), some (.ref lw), some (.ref lr), some (.ref d1), some (.ref d2), v6, v7] ∧ Same H H5 ∧ H5 l = some (.lst (refL ps)) ∧ AllA PlA H5 ps ∧ H5 d1 = some (.dK hs) ∧ H5 d2 = some (.dK kvs) ∧ hs.length = i ∧
          (∀ x : Int, valV hs (Sum.inl x : Key) = (held wF rF ((walkF sz O).take i) x).map V.int) ∧ (∀ e ∈ hs, ∃ p ∈ (walkF sz O).take i, e.1 = Sum.inl (wF p)) ∧ (∀ e ∈ hs, valV hs e.1 = some e.2) ∧ ∀ p ∈ (walkF sz O).take i, ∃ e ∈ hs, e.1 = (Sum.inl (wF p) : Key))
        ⟨v6, none, [], rfl, s3.trans s4, el, hP, s4 _ _ e1, s4 _ _ e2, rfl, (fun _ => rfl), (fun e h => by simp at h), (fun e h => by simp at h), fun p h => by simp at h⟩ (fun i σ H5 _ ⟨_, _, _, _, _, e5, _⟩ => SqL.of e5) ?_ ?_⟩
      · rintro i y σ H5 hi ⟨v6, v7, hs, rfl, s5, el5, hP5, ed1, ed2, hl, h1, h2, h3, h4⟩
        obtain ⟨b, p, eb, rfl, ep⟩ := refL_get hi
        rw [hps] at ep
        have hil : i < ps.length := (List.getElem?_eq_some_iff.mp eb).1
        have hpW := List.mem_of_getElem? ep
        have hpm := (memW p).mp hpW
        have hbp : PlA H5 b p := hP5 _ (List.mem_of_getElem? eb)
        refine ⟨_, rfl, _, rfl, a, b, sz, p, rfl, s5.seq hS, hbp, hpm, hz, fun H6 s6 => ?_⟩
        have hnum := get_num hpm
        have eW : (intL ((placesR sz).map wF))[numF 0 sz p]? = some (.int (wF p)) := by rw [List.getElem?_map, List.getElem?_map, hnum]; rfl
        have eR : (intL ((placesR sz).map rF))[numF 0 sz p]? = some (.int (rF p)) := by rw [List.getElem?_map, List.getElem?_map, hnum]; rfl
        have s06 := s5.trans s6
        have ed16 := s6 _ _ ed1
        refine ⟨_, rfl, d1, rfl, .inl ⟨hs, Rd.of ed16⟩, _, rfl, _, rfl, lr, _, _, _, rfl, rfl, SqL.of (s06 _ _ er), atI_nat eR, _, rfl, _, rfl, lr, _, _, _, rfl, rfl, SqL.of (s06 _ _ er), atI_nat eR, _, DGet.k (k := Sum.inl (rF p)) ed16, ?_⟩
        have ev : (valV hs (Sum.inl (rF p) : Key)).getD (.int (rF p)) = .int ((held wF rF ((walkF sz O).take i) (rF p)).getD (rF p)) := by
          rw [h1]
          cases held wF rF ((walkF sz O).take i) (rF p) <;> rfl
        rw [ev]
        have hno : ∀ p' ∈ (walkF sz O).take i, wF p' ≠ wF p := fun p' hp' e => notin_take nd ep (by
          have : p' = p := wI p' (List.mem_of_mem_take hp') p hpW e
          rw [← this]; exact hp')
        have hnew : valV hs (Sum.inl (wF p) : Key) = none := by rw [h1, held_none hno]; rfl
        refine ⟨_, rfl, _, rfl, _, rfl, lw, _, _, _, rfl, rfl, SqL.of (s06 _ _ ew), atI_nat eW, d1, _, rfl, DPut.k (k := Sum.inl (wF p)) ed16 (small (by omega)), ?_⟩
        have b7 : But d1 H6 (upd H6 d1 (.dK (putK hs (Sum.inl (wF p) : Key) (.int ((held wF rF ((walkF sz O).take i) (rF p)).getD (rF p)))))) := But.upd _ _ _
        have el6 := s6 _ _ el5
        refine ⟨_, _, _, rfl, Same.butNew s06 b7 nd1, b7 _ _ el6 (ne_of el6 ed16 (by intro z; cases z)), (hP5.imp fun a x k => plA_same _ _ _ _ s6 k).imp fun a x k => b7.pl ed16 (fun z => z) k, upd_same, b7 _ _ (s6 _ _ ed2) (Ne.symm n12), ?_, fun x => ?_, fun e he => ?_, fun e he => ?_, fun p' hp' => ?_⟩
        · rw [putK_new _ hnew, List.length_append, hl]
          rfl
        · rw [valV_put, take_snoc ep, held_snoc]
          unfold heldStep
          by_cases e : x = wF p
          · rw [if_pos e, if_pos (by rw [e])]
            rfl
          · rw [if_neg e, if_neg (fun z => e (by injection z)), h1]
        · rw [putK_new _ hnew] at he
          rw [take_snoc ep]
          rcases List.mem_append.mp he with he | he
          · obtain ⟨p', hp', e'⟩ := h2 e he
            exact ⟨p', List.mem_append_left _ hp', e'⟩
          · rw [List.mem_singleton.mp he]
            exact ⟨p, List.mem_append_right _ (List.mem_singleton_self _), rfl⟩
        · rw [valV_put]
          rw [putK_new _ hnew] at he
          rcases List.mem_append.mp he with he | he
          · rw [if_neg fun z => by
              have k := h3 e he
              rw [z, hnew] at k
              cases k]
            exact h3 e he
          · rw [List.mem_singleton.mp he, if_pos rfl]
        · rw [putK_new _ hnew]
          rw [take_snoc ep] at hp'
          rcases List.mem_append.mp hp' with hp' | hp'
          · obtain ⟨e, he, e'⟩ := h4 p' hp'
            exact ⟨e, List.mem_append_left _ he, e'⟩
          · rw [List.mem_singleton.mp hp']
            exact ⟨_, List.mem_append_right _ (List.mem_singleton_self _), rfl⟩
      · rintro σ H5 ⟨v6, v7, hs, rfl, s5, el5, hP5, ed1, ed2, hl, h1, h2, h3, h4⟩
        rw [len_refL, hpsl, List.take_length] at h1 h2 h4
        have due : ∀ p ∈ walkF sz O, valV kvs (Sum.inl (wF p) : Key) = some (.int (rF p)) := fun p hp => k1 p (mem_placesR.mpr ((memW p).mp hp))
        refine ⟨_, rfl, _, rfl, d1, d2, hs, kvs, rfl, rfl, ed1, ed2, by rw [hl, hk, len_refL, hpsl, hlen], fun e he => ?_, q H5 _ s5 ?_⟩
        · obtain ⟨p, hp, e'⟩ := h2 e he
          have k := h3 e he
          rw [e', h1] at k
          obtain ⟨n, _, hn⟩ := Option.map_eq_some_iff.mp k
          exact ⟨n, rF p, hn.symm, by rw [e']; exact due p hp⟩
        · unfold Kp
          rw [← held_ok nd wI, List.all_eq_true]
          constructor
          · intro h p hp
            obtain ⟨e, he, e'⟩ := h4 p hp
            have k := of_decide_eq_true (h e he)
            rw [e', due p hp] at k
            have k3 := h3 e he
            rw [e', h1, ← k] at k3
            obtain ⟨n, hn, e2⟩ := Option.map_eq_some_iff.mp k3
            rw [hn]
            injection e2 with e2
            rw [e2]
          · intro h e he
            obtain ⟨p, hp, e'⟩ := h2 e he
            have k3 := h3 e he
            rw [e', h1, h p hp] at k3
            rw [e', due p hp]
            exact decide_eq_true k3
end
end PH

/-! The walks: all orders. -/
namespace PH
open PySem PySem.Spec PyProof.Rows L2
/-- the scope of the list that an assignment makes -/
def lcS (s : Stmt) : Scope := match s with
  | .Assign _ (.ListComp _ _ sc _) _ => sc
  | _ => { kind := .function, names := [], isGenerator := false, isCoroutine := false }
def forB (s : Stmt) : List Stmt := match s with
  | .For _ _ b _ _ => b
  | _ => []
def nestS (s : Stmt) : Stmt := (forB ((forB ((defBody s).getD 1 (.Pass ⟨0, 0, 0, 0⟩))).getD 1 (.Pass ⟨0, 0, 0, 0⟩))).getD 0 (.Pass ⟨0, 0, 0, 0⟩)
theorem ordA_same : ∀ (H H' : Hp) (a : Addr) (x : Ord), Same H H' → OrdA H a x → OrdA H' a x := fun _ _ _ _ s h => h.same s
theorem inV_ints (l : List Int) (x : Int) : inV (.int x) (intL l) = decide (x ∈ l) := by
  unfold inV
  rw [Bool.eq_iff_iff, List.any_eq_true, decide_eq_true_eq]
  constructor
  · rintro ⟨v, hv, e⟩
    obtain ⟨n, hn, rfl⟩ := List.mem_map.mp hv
    have e' : (n == x) = true := e
    rw [← eq_of_beq e']
    exact hn
  · intro h
    exact ⟨.int x, List.mem_map.mpr ⟨x, h, rfl⟩, beq_self_eq_true x⟩
section
variable {P : Program} {w : World} {K : PySem.W.Frag} {mg : Str → Option Value} {base : Heap} {C : Addr}
def spAll : Sp := fun vs H Q _ => ∃ n : Nat, vs = [.int n] ∧ n ≤ 3 ∧ ∀ (H' : Hp) (l : Addr) (os : List (Addr × Ord)), Same H H' → H' l = some (.lst (refL os)) → AllA OrdA H' os → os.map (·.2) = allO n n → Q (.ref l) H'
theorem ok_l_all_orders {f : Addr} {fd : FuncData} (F : Fun K "_law_all_orders" "_law_all_orders" s_l_all_orders f fd) (T : Txt K mg C) : FnOk P w K mg base CX0 1 f fd ["_law_axes"] spAll := by
  refine F.ok sc_l_all_orders (fun vs H Q E h => ?_) (fun cdv A outer s H vs Q E hr h => ?_)
  · obtain ⟨n, rfl, _⟩ := h
    rfl
  · obtain ⟨n, rfl, hn, q⟩ := h
    refine ⟨_, (pss_cons (ps_set (i := 1) sc_l_all_orders.nd rfl (Or.inl rfl) (pe_lst (pa_cons (pe_lst pa_nil) pa_nil)))
      (pss_cons (ps_for PassesOwn.never rfl (pi_range1 rfl T.range (pa_cons (pv 0) pa_nil)) (pg_name (i := 2) sc_l_all_orders.nd rfl (Or.inl rfl)) (pss_cons (ps_set (i := 3) sc_l_all_orders.nd rfl (Or.inl rfl) (pe_lst pa_nil))
      (pss_cons (ps_for PassesOwn.never rfl (k_list K (pv 1)) (pg_name (i := 4) sc_l_all_orders.nd rfl (Or.inr rfl)) (pss_cons (ps_setLc (i := 5) (own := [("_law_axis", 6)]) (g := gName 6) (by rfl) sc_l_all_orders.nd rfl rfl (sw_true rfl rfl rfl (by decide +kernel)) (pi_range1 rfl T.range (pa_cons (pv 0) pa_nil))  (blkOk_by (own := [("_law_axis", 6)]) (N := N_l_all_orders) (sc := defScope s_l_all_orders) (by decide +kernel)) (fun _ _ _ _ _ => (pg_name (i := 6) sc_l_all_orders.nd rfl (Or.inl rfl))) (fun _ _ _ _ _ => (pts_one (pt_cmpR (k_notIn K) (pv 6) (pe_lc (own := [("_law_row", 7)]) (g := gName 7) (tt := tYes) (by rfl) sc_l_all_orders.nd (k_list K (pv 4))  (blkOk_by (own := [("_law_row", 7)]) (N := N_l_all_orders) (sc := relS (lcS (nestS s_l_all_orders)) (defScope s_l_all_orders)) (by decide +kernel)) (fun _ _ _ _ _ => (pg_name (i := 7) sc_l_all_orders.nd rfl (Or.inl rfl))) (fun _ _ _ _ _ => pts_nil) (fun _ _ _ _ _ => (pe_ix (k_ixt K) (pv 7) pe_int (fun _ _ => rfl)))) rfl))) (fun _ _ _ _ _ => (pv 6)))
      (pss_one (ps_for PassesOwn.never rfl (k_list K (pv 5)) (pg_name (i := 6) sc_l_all_orders.nd rfl (Or.inl rfl)) (pss_one (ps_set (i := 3) sc_l_all_orders.nd rfl (Or.inl rfl) (pe_op op_cat (pv 3) (pe_lst (pa_cons (pe_op op_cat (pv 4) (pe_lst (pa_cons (pe_tup (pa_cons (pv 6) (pa_cons pe_int pa_nil))) pa_nil))) (pa_cons (pe_op op_cat (pv 4) (pe_lst (pa_cons (pe_tup (pa_cons (pv 6) (pa_cons (pe_un un_neg pe_int) pa_nil))) pa_nil))) pa_nil))))))))))
      (pss_one (ps_set (i := 1) sc_l_all_orders.nd rfl (Or.inl rfl) (pv 3))))))
      (pss_one (ps_ret (pv 1))))), ?_⟩
    refine ⟨Nat.zero_le _, fun e ne => ⟨by show 1 ≤ sizeLine; decide, fun l nl => ?_⟩⟩
    have se : Same H (upd H e (.lst [])) := same_upd ne
    have sl := same_upd (o := .lst [.ref e]) nl
    refine ⟨_, rfl, n, rfl, by omega, by omega, for_it (walk_range (lo := 0) (n := n)) (fun i σ H2 => ∃ (lf : Addr) (os : List (Addr × Ord)) (v2 v3 v4 v5 v6 : Option V), σ = [some (.int n), some (.ref lf), v2, v3, v4, v5, v6, none] ∧ Same H H2 ∧ H2 lf = some (.lst (refL os)) ∧ AllA OrdA H2 os ∧ os.map (·.2) = allO n i)
      ⟨l, [(e, [])], none, none, none, none, none, rfl, se.trans sl, upd_same, fun x hx => by
        rw [List.mem_singleton.mp hx]
        exact ⟨[], sl _ _ upd_same, AllA.nil, rfl⟩, rfl⟩ (fun _ _ _ _ _ => trivial) ?_ ?_⟩
    · rintro i y σ H2 H3 hi ⟨lf, os, v2, v3, v4, v5, v6, rfl, s2, ef, hOs, hos⟩ hy
      obtain ⟨rfl, rfl⟩ := rngY hy
      have hol : os.length ≤ 216 := by
        have h1 := congrArg List.length hos
        rw [List.length_map] at h1
        have h2 := len_allO hn i
        have h3 : 6 ^ i ≤ 6 ^ 3 := Nat.pow_le_pow_right (by decide) (by omega)
        have h4 : 6 ^ 3 = 216 := rfl
        omega
      refine ⟨Nat.zero_le _, fun g ng => ?_⟩
      have sg : Same H3 (upd H3 g (.lst [])) := same_upd ng
      refine ⟨_, rfl, lf, rfl, ⟨_, SqL.of (sg _ _ ef)⟩, for_list (K := K) (a := lf) (xs := refL os) (fun j σ H4 => ∃ (lg : Addr) (ls : List (Addr × Ord)) (v4 v5 v6 : Option V), σ = [some (.int n), some (.ref lf), some (.int i), some (.ref lg), v4, v5, v6, none] ∧ Same H3 H4 ∧ H4 lg = some (.lst (refL ls)) ∧ AllA OrdA H4 ls ∧
          ls.map (·.2) = ((allO n i).take j).flatMap (extO n) ∧ ls.length ≤ 6 * j)
        ⟨g, [], v4, v5, v6, rfl, sg, upd_same, AllA.nil, rfl, Nat.le_refl _⟩ (fun j σ H4 _ ⟨_, _, _, _, _, _, s4, _⟩ => SqL.of (s4 _ _ ef)) ?_ ?_⟩
      · rintro j y σ H4 hj ⟨lg, ls, v4, v5, v6, rfl, s4, eg, hLs, hls, hll⟩
        obtain ⟨o, O, eo, rfl, eO⟩ := refL_get hj
        rw [hos] at eO
        have hjl : j < os.length := (List.getElem?_eq_some_iff.mp eo).1
        have hoA : OrdA H4 o O := (hOs _ (List.mem_of_getElem? eo)).same s4
        obtain ⟨rows, er, hR, hrows⟩ := id hoA
        have hOl : O.length ≤ 3 := by
          have := (mem_allO.mp (List.mem_of_getElem? eO)).len
          omega
        have hrl : rows.length = O.length := by rw [← hrows, List.length_map]
        refine ⟨_, rfl, n, rfl, by omega, by omega, fun D nD => ?_⟩
        refine lc_it (walk_range (lo := 0) (n := n)) (fun i H5 => Same H4 H5 ∧ H5 D = some (.lst (natL ((List.range i).filter fun a => !(O.map (·.1)).contains a)))) ⟨same_upd nD, upd_same⟩ (fun _ _ _ _ => trivial) (fun m x H5 H6 hm ⟨s5, eD⟩ hy => ?_) (fun H5 ⟨s5, eD⟩ => ?_)
        · obtain ⟨rfl, rfl⟩ := rngY hy
          have er5 := s5 _ _ er
          refine ⟨rfl, _, rfl, _, rfl, o, rfl, ⟨_, SqL.of er5⟩, fun D2 nD2 => ?_⟩
          refine lc_ints (walk_list (K := K) (a := o) (xs := refL rows)) (O.map fun x => (x.1 : Int)) (by rw [List.length_map, len_refL, hrl]) (by rw [len_refL]; omega) nD2
            (fun H7 s7 => SqL.of (s7 _ _ er5)) (fun i H7 x H8 _ _ y => same_at i H7 x H8 y) (fun k x z H7 H8 R hk hz' s7 y s8 hR' => ?_) (fun H7 s7 e7 => ?_)
          · obtain ⟨rfl, hx⟩ := y
            obtain ⟨ra, ax, wy, rfl, hx2, hm⟩ := sizes_get hrows hx
            have hra : AxA H8 ra (ax, wy) := ((hR _ hm).same s5).same s7
            rw [List.getElem?_map, hx2] at hz'
            have ez : (ax : Int) = z := Option.some.inj hz'
            subst ez
            exact ⟨rfl, _, rfl, ra, _, _, _, rfl, rfl, SqT.of hra, atI_nat (j := 0) rfl, hR' _ (Same.refl _)⟩
          · have hin : inV (.int (m : Int)) (intL (O.map fun x => (x.1 : Int))) = (O.map (·.1)).contains m := by
              rw [inV_ints, Bool.eq_iff_iff, decide_eq_true_eq, List.contains_iff_mem]
              constructor
              · intro h
                obtain ⟨x, hx, e⟩ := List.mem_map.mp h
                exact List.mem_map.mpr ⟨x, hx, Int.ofNat.inj e⟩
              · intro h
                obtain ⟨x, hx, e⟩ := List.mem_map.mp h
                exact List.mem_map.mpr ⟨x, hx, by rw [e]⟩
            refine ⟨D2, _, rfl, .inl (SqL.of e7), rfl, flat_ints _, _, rfl, ?_⟩
            have eD7 := s7 _ _ eD
            refine ite2 (fun hc => ?_) fun hc => ?_
            · rw [if_pos rfl, hin] at hc
              refine ⟨_, rfl, _, eD7, ?_, same_new (s5.trans s7) nD, ?_⟩
              · rw [len_natL]
                have := List.length_filter_le (fun a => !(O.map (·.1)).contains a) (List.range m)
                rw [List.length_range] at this
                exact small (by omega)
              · rw [upd_same, List.range_succ, filter_snoc, if_pos hc, natL_snoc]
                rfl
            · rw [if_pos rfl, hin] at hc
              refine ⟨s5.trans s7, ?_⟩
              rw [eD7, List.range_succ, filter_snoc, if_neg hc]
        · have hlen : ((List.range n).filter fun a => !(O.map (·.1)).contains a).length ≤ 3 := by
            have := List.length_filter_le (fun a => !(O.map (·.1)).contains a) (List.range n)
            rw [List.length_range] at this
            omega
          have hext : extO n O = ((List.range n).filter fun a => !(O.map (·.1)).contains a).flatMap fun a => [O ++ [(a, 1)], O ++ [(a, -1)]] := rfl
          generalize ((List.range n).filter fun a => !(O.map (·.1)).contains a) = left at eD hlen hext
          have eo5 := s5 _ _ er
          refine ⟨_, rfl, D, rfl, ⟨_, SqL.of eD⟩, for_list (K := K) (a := D) (xs := natL left) (fun m σ H6 => ∃ (lg : Addr) (ls : List (Addr × Ord)) (v6 : Option V), σ = [some (.int n), some (.ref lf), some (.int i), some (.ref lg), some (.ref o), some (.ref D), v6, none] ∧ Same H5 H6 ∧ H6 lg = some (.lst (refL ls)) ∧ AllA OrdA H6 ls ∧
              ls.map (·.2) = ((allO n i).take j).flatMap (extO n) ++ (left.take m).flatMap (fun a => [O ++ [(a, 1)], O ++ [(a, -1)]]) ∧ ls.length ≤ 6 * j + 2 * m)
            ⟨lg, ls, v6, rfl, Same.refl _, s5 _ _ eg, hLs.imp fun a x k => ordA_same _ _ _ _ s5 k, by rw [hls]; simp, hll⟩ (fun m σ H6 _ ⟨_, _, _, _, s6, _⟩ => SqL.of (s6 _ _ eD)) ?_ ?_⟩
          · rintro m y σ H6 hm ⟨lg, ls, v6, rfl, s6, eg6, hLs6, hls6, hll6⟩
            obtain ⟨ax, hax, rfl⟩ := natL_get hm
            have hml : m < left.length := (List.getElem?_eq_some_iff.mp hax).1
            have er6 := s6 _ _ eo5
            have hR6 : AllA AxA H6 rows := hR.imp fun a x k => (k.same s5).same s6
            refine ⟨_, rfl, _, rfl, _, rfl, by show 2 ≤ sizeLine; decide, fun t1 nt1 => ⟨by show 1 ≤ sizeLine; decide, fun q1 nq1 => ?_⟩⟩
            have st1 := same_upd (o := .tup [nI ax, .int 1]) nt1
            have sq1 := same_upd (o := .lst [.ref t1]) nq1
            refine ⟨o, q1, _, _, rfl, rfl, sq1 _ _ (st1 _ _ er6), upd_same, by rw [len_refL]; show _ + 1 ≤ _; exact Nat.le_of_lt (small (by omega)), fun r1 nr1 => ?_⟩
            have sr1 := same_upd (o := .lst (refL rows ++ [.ref t1])) nr1
            have s7 := (st1.trans sq1).trans sr1
            have O1 : OrdA (upd (upd (upd H6 t1 (.tup [nI ax, .int 1])) q1 (.lst [.ref t1])) r1 (.lst (refL rows ++ [.ref t1]))) r1 (O ++ [(ax, 1)]) := by
              refine ⟨rows ++ [(t1, (ax, 1))], by rw [upd_same, refL_snoc], (hR6.imp fun a x k => k.same s7).snoc ((sq1.trans sr1) _ _ upd_same), by rw [List.map_append, hrows]; rfl⟩
            generalize upd (upd (upd H6 t1 (.tup [nI ax, .int 1])) q1 (.lst [.ref t1])) r1 (.lst (refL rows ++ [.ref t1])) = H7 at s7 O1 ⊢
            have er7 := s7 _ _ er6
            refine ⟨_, rfl, _, rfl, _, rfl, by show 2 ≤ sizeLine; decide, fun t2 nt2 => ⟨by show 1 ≤ sizeLine; decide, fun q2 nq2 => ?_⟩⟩
            have st2 := same_upd (o := .tup [nI ax, .int (-1)]) nt2
            have sq2 := same_upd (o := .lst [.ref t2]) nq2
            refine ⟨o, q2, _, _, rfl, rfl, sq2 _ _ (st2 _ _ er7), upd_same, by rw [len_refL]; show _ + 1 ≤ _; exact Nat.le_of_lt (small (by omega)), fun r2 nr2 => ?_⟩
            have sr2 := same_upd (o := .lst (refL rows ++ [.ref t2])) nr2
            have s8 := (st2.trans sq2).trans sr2
            have O2 : OrdA (upd (upd (upd H7 t2 (.tup [nI ax, .int (-1)])) q2 (.lst [.ref t2])) r2 (.lst (refL rows ++ [.ref t2]))) r2 (O ++ [(ax, -1)]) := by
              refine ⟨rows ++ [(t2, (ax, -1))], by rw [upd_same, refL_snoc], (hR6.imp fun a x k => (k.same s7).same s8).snoc ((sq2.trans sr2) _ _ upd_same), by rw [List.map_append, hrows]; rfl⟩
            refine ⟨by show 2 ≤ sizeLine; decide, fun z nz => ?_⟩
            have s8z := s8.trans (same_upd (o := .lst [.ref r1, .ref r2]) nz)
            have s6z := s7.trans s8z
            refine ⟨lg, z, _, _, rfl, rfl, s6z _ _ eg6, upd_same, by rw [len_refL]; show _ + 2 ≤ _; exact Nat.le_of_lt (small (by omega)), fun u nu => ?_⟩
            have su := same_upd (o := .lst (refL ls ++ [.ref r1, .ref r2])) nu
            have s6u := s6z.trans su
            refine ⟨u, ls ++ [(r1, O ++ [(ax, 1)]), (r2, O ++ [(ax, -1)])], _, rfl, s6.trans s6u, by rw [upd_same, refL_append]; rfl, (hLs6.imp fun a x k => ordA_same _ _ _ _ s6u k).append fun x hx => ?_, ?_, by rw [List.length_append]; show _ + 2 ≤ _; omega⟩
            · have hx' : x = (r1, O ++ [(ax, 1)]) ∨ x = (r2, O ++ [(ax, -1)]) := by simpa using hx
              rcases hx' with rfl | rfl
              · exact (O1.same s8z).same su
              · exact (O2.same (same_upd (o := .lst [.ref r1, .ref r2]) nz)).same su
            · rw [List.map_append, hls6, flat_take_snoc _ hax, List.append_assoc]
              rfl
          · rintro σ H6 ⟨lg, ls, v6, rfl, s6, eg6, hLs6, hls6, hll6⟩
            rw [len_natL] at hll6 hls6
            rw [List.take_length, ← hext, ← flat_take_snoc _ eO] at hls6
            exact ⟨lg, ls, _, _, _, rfl, (s4.trans s5).trans s6, eg6, hLs6, hls6, by omega⟩
      · rintro σ H4 ⟨lg, ls, v4, v5, v6, rfl, s4, eg, hLs, hls, hll⟩
        refine ⟨_, rfl, lg, ls, _, _, _, _, _, rfl, s2.trans s4, eg, hLs, ?_⟩
        rw [hls, len_refL, show os.length = (allO n i).length by rw [← hos, List.length_map], List.take_length]
        rfl
    · rintro σ H2 ⟨lf, os, v2, v3, v4, v5, v6, rfl, s2, ef, hOs, hos⟩
      exact ⟨_, rfl, q H2 lf os s2 ef hOs hos⟩
end
end PH

/-! The walks: _law_right, law. -/
namespace PH
open PySem PySem.Spec PyProof.Rows L2
theorem s_ln : ¬ (("loops" : Str) = "none") := by decide +kernel
theorem IsB.back {sz : List Nat} {w r w' r' : Pl → Int} {B : List (Pl × Pl)} {b m : Int} (hb : 0 < b) (h1 : ∀ p, IsPl sz p → w' p = w p * b + m) (h2 : ∀ p, IsPl sz p → r' p = r p * b + m) (h : IsB sz w' r' B) : IsB sz w r B := by
  have hinj : ∀ x y : Int, x * b + m = y * b + m ↔ x = y := fun x y => by
    constructor
    · intro e
      have e' : x * b = y * b := by omega
      exact Int.eq_of_mul_eq_mul_right (by omega) e'
    · intro e; rw [e]
  refine ⟨fun i j => ?_⟩
  rw [h.mem]
  constructor
  · rintro ⟨a1, a2, a3, a4, a5⟩
    rw [h1 i a1, h2 j a2] at a4
    rw [h2 i a1, h2 j a2] at a5
    exact ⟨a1, a2, a3, (hinj _ _).mp a4, fun z => a5 (by rw [z])⟩
  · rintro ⟨a1, a2, a3, a4, a5⟩
    refine ⟨a1, a2, a3, ?_, ?_⟩
    · rw [h1 i a1, h2 j a2, a4]
    · rw [h2 i a1, h2 j a2]
      exact fun z => a5 ((hinj _ _).mp z)
theorem kept_cl {axes : List (Nat × Int)} {f : Int} {p : Pl} (hp : IsPl (axes.map (·.1)) p) : cl f (keptF axes) p = cl f axes p * 1 + 0 := by
  show f + dot p ((keptF axes).map (·.2)) = (f + dot p (axes.map (·.2))) * 1 + 0
  rw [dot_kept axes p hp]
  omega
theorem far_cl {axes : List (Nat × Int)} {f b m : Int} {p : Pl} (hp : IsPl (axes.map (·.1)) p) : cl (f * b + m) (keptF (farF b (keptF axes))) p = cl f axes p * b + m := by
  show f * b + m + dot p ((keptF (farF b (keptF axes))).map (·.2)) = (f + dot p (axes.map (·.2))) * b + m
  rw [dot_kept _ p (by rw [sizes_far, sizes_kept]; exact hp), dot_far, dot_kept axes p hp, Int.add_mul]
  omega
theorem once_by {axes AX : List (Nat × Int)} {f F b m : Int} (hb : 0 < b) (hsz : AX.map (·.1) = axes.map (·.1)) (h : ∀ p, IsPl (axes.map (·.1)) p → cl F AX p = cl f axes p * b + m) (ho : Once f axes) : Once F AX := fun p q hp hq e => by
  rw [hsz] at hp hq
  have e1 : cl f axes p * b + m = cl f axes q * b + m := by
    rw [← h p hp, ← h q hq]
    exact e
  have e' : cl f axes p * b = cl f axes q * b := by omega
  exact ho p q hp hq (Int.eq_of_mul_eq_mul_right (by omega) e')
section
variable {P : Program} {w : World} {K : PySem.W.Frag} {mg : Str → Option Value} {base : Heap} {C : Addr}
def spRight (C : Addr) : Sp := fun vs H Q _ => ∃ (p p2 : Addr) (can : Bool) (r f f2 : Int) (axes axes2 : List (Nat × Int)), vs = [.ref p, .ref p2, .bl can] ∧ VwA C H p r f axes ∧ VwA C H p2 r f2 axes2 ∧ axes2.map (·.1) = axes.map (·.1) ∧ Once f axes ∧
  (∀ B, IsB (axes.map (·.1)) (cl f axes) (cl f2 axes2) B → (can = true ↔ ∃ O, IsOrder axes.length O ∧ ∀ pr ∈ B, right O pr)) ∧ ∀ (H' : Hp), Same H H' → Q (.bl true) H'
theorem ok_l_right {f : Addr} {fd : FuncData} (F : Fun K "_law_right" "_law_right" s_l_right f fd) (T : Txt K mg C) (G_loop_order : Cal P w K mg base "loop_order" 7 ["to", "source"] (spLoop C)) (G_bars : Cal P w K mg base "bars" 7 ["to", "source", "some"] (spBars C)) :
    FnOk P w K mg base CX0 8 f fd ["_law_one", "_law_other", "_law_can"] (spRight C) := by
  refine F.ok sc_l_right (fun vs H Q E h => ?_) (fun cdv A outer s H vs Q E hr h => ?_)
  · obtain ⟨p, p2, can, r, f, f2, axes, axes2, rfl, _⟩ := h
    rfl
  · obtain ⟨p, p2, can, r, f, f2, axes, axes2, rfl, hV, hV2, hsz, ho, hcan, q⟩ := h
    refine ⟨_, (pss_cons (ps_set (i := 3) sc_l_right.nd rfl (Or.inl rfl) (pe_cal G_loop_order hr (by rfl) (pa_cons (pv 0) (pa_cons (pv 1) pa_nil))))
      (pss_cons (ps_if (pt_cmpR op_eq (pe_ix (k_ixt K) (pv 3) pe_int (fun _ _ => rfl)) pe_str (nomark _)) (pss_one (ps_ret (pe_and (pe_not (pv 2)) (pe_one (pe_cmpR op_isBl (pe_cal G_bars hr (by rfl) (pa_cons (pv 0) (pa_cons (pv 1) (pa_cons (pe_ix (k_ixt K) (pv 3) pe_int (fun _ _ => rfl)) pa_nil)))) pe_bl (nomark _)))))) pss_nil)
      (pss_one (ps_ret (pe_and (pe_cmpR op_eq (pe_ix (k_ixt K) (pv 3) pe_int (fun _ _ => rfl)) pe_str (nomark _)) (pe_one (pv 2))))))), ?_⟩
    refine ⟨_, rfl, _, rfl, p, p2, r, f, f2, axes, axes2, rfl, hV, hV2, hsz, ho, fun H1 t x B s1 et hB hex => ?_, fun H1 t l B S s1 et el hS hB hne hsub hSl hmix hno => ?_⟩
    · have hc : can = true := (hcan B hB).mpr hex
      subst hc
      refine ⟨_, rfl, t, _, _, _, rfl, rfl, SqT.of et, atI_nat (j := 0) rfl, rfl, _, rfl, ?_⟩
      rw [decide_eq_false (show ¬ (V.str "loops" = V.str "none") from fun e => s_ln (by injection e))]
      refine iteF ⟨_, rfl, t, _, _, _, rfl, rfl, SqT.of et, atI_nat (j := 0) rfl, rfl, ?_⟩
      rw [decide_eq_true (show V.str "loops" = V.str "loops" from rfl)]
      exact ⟨true, rfl, iteT ⟨_, rfl, q H1 s1⟩⟩
    · have hc : can = false := by
        cases hcc : can with
        | false => rfl
        | true =>
          obtain ⟨O, h1, h2⟩ := (hcan B hB).mp hcc
          exact absurd h2 (hno O h1)
      subst hc
      refine ⟨_, rfl, t, _, _, _, rfl, rfl, SqT.of et, atI_nat (j := 0) rfl, rfl, _, rfl, ?_⟩
      rw [decide_eq_true (show V.str "none" = V.str "none" from rfl)]
      refine iteT ⟨_, rfl, false, rfl, true, rfl, iteT ?_⟩
      refine ⟨_, rfl, _, rfl, _, rfl, t, _, _, _, rfl, rfl, SqT.of et, atI_nat (j := 1) rfl, p, p2, l, r, f, f2, axes, axes2, S, rfl, hV.same s1, hV2.same s1, hsz, ho, el, hS, hne, hSl, fun B' hB' pr hpr => ?_, hmix, fun H2 s2 => ?_⟩
      · exact (hB'.mem pr.1 pr.2).mpr ((hB.mem pr.1 pr.2).mp (hsub pr hpr))
      · exact ⟨_, _, rfl, rfl, q H2 (s1.trans s2)⟩
/-! law -/
def spLaw (K : PySem.W.Frag) : Sp := fun vs H Q _ => ∃ (l : Addr) (ns : List Int), vs = [.ref l] ∧ SqL K H l (intL ns) ∧ ns.length ≤ 63 ∧ ∀ H', Q (.bl true) H'
theorem ok_law {f : Addr} {fd : FuncData} (F : Fun K "law" "law" s_law f fd) (T : Txt K mg C) (G_l_sizes : Cal P w K mg base "_law_sizes" 2 ["_law_script", "_law_most_here", "_law_wide"] (spLSizes K)) (G_l_two : Cal P w K mg base "_law_two" 6 ["_law_script", "_law_sizes_here"] (spTwo K C))
    (G_l_all_orders : Cal P w K mg base "_law_all_orders" 1 ["_law_axes"] spAll) (G_l_keeps : Cal P w K mg base "_law_keeps" 2 ["_law_sizes_here", "_law_order", "_law_writes", "_law_reads"] (spKeeps K))
    (G_l_right : Cal P w K mg base "_law_right" 8 ["_law_one", "_law_other", "_law_can"] (spRight C)) (G_l_far : Cal P w K mg base "_law_far" 6 ["_law_script", "_law_view"] (spFar K C)) : FnOk P w K mg base CX0 9 f fd ["_law_script"] (spLaw K) := by
  refine F.ok sc_law (fun vs H Q E h => ?_) (fun cdv A outer s H vs Q E hr h => ?_)
  · obtain ⟨l, ns, rfl, _⟩ := h
    rfl
  · obtain ⟨l, ns, rfl, hS, hns, q⟩ := h
    refine ⟨_, (pss_cons (ps_set (i := 1) sc_law.nd rfl (Or.inl rfl) (pe_cal G_l_sizes hr (by rfl) (pa_cons (pv 0) (pa_cons pe_int (pa_cons pe_bl pa_nil)))))
      (pss_cons (ps_asg (pe_cal G_l_two hr (by rfl) (pa_cons (pv 0) (pa_cons (pv 1) pa_nil))) (pg_tup rfl (pgs_cons (pg_name (i := 2) sc_law.nd rfl (Or.inl rfl)) (pgs_cons (pg_name (i := 3) sc_law.nd rfl (Or.inl rfl)) (pgs_cons (pg_name (i := 4) sc_law.nd rfl (Or.inl rfl)) (pgs_cons (pg_name (i := 5) sc_law.nd rfl (Or.inl rfl)) pgs_nil))))))
      (pss_cons (ps_set (i := 6) sc_law.nd rfl (Or.inl rfl) pe_bl)
      (pss_cons (ps_for PassesOwn.never rfl (k_list K (pe_cal G_l_all_orders hr (by rfl) (pa_cons (pe_callB call_len_seq (by rfl) T.len b_len (pa_cons (pv 1) pa_nil)) pa_nil))) (pg_name (i := 7) sc_law.nd rfl (Or.inl rfl)) (pss_one (ps_set (i := 6) sc_law.nd rfl (Or.inl rfl) (pe_or (pv 6) (pe_one (pe_cal G_l_keeps hr (by rfl) (pa_cons (pv 1) (pa_cons (pv 7) (pa_cons (pv 4) (pa_cons (pv 5) pa_nil))))))))))
      (pss_one (ps_ret (pe_and (pe_cal G_l_right hr (by rfl) (pa_cons (pv 2) (pa_cons (pv 3) (pa_cons (pv 6) pa_nil)))) (pe_one (pe_cal G_l_right hr (by rfl) (pa_cons (pe_cal G_l_far hr (by rfl) (pa_cons (pv 0) (pa_cons (pv 2) pa_nil))) (pa_cons (pe_cal G_l_far hr (by rfl) (pa_cons (pv 0) (pa_cons (pv 3) pa_nil))) (pa_cons (pv 6) pa_nil)))))))))))), ?_⟩
    refine ⟨_, rfl, l, ns, rfl, hS, hns, fun H1 a sz s1 ea hz => ?_⟩
    have hz3 := hz.len
    refine ⟨_, rfl, _, rfl, l, a, ns, sz, rfl, s1.seq hS, hns, SqL.of ea, hz, fun H2 t v1 v2 w1 w2 r f f2 axes axes2 s2 et V1 V2 e1 e2 x1 x2 g1 g2 ho r1 r2 => ?_⟩
    refine ⟨t, _, rfl, SqT.of et, rfl, _, _, rfl, _, _, rfl, _, _, rfl, _, _, rfl, rfl, ?_⟩
    have hal : axes.length = sz.length := by rw [← x1, List.length_map]
    have hwo : ∀ B, IsB sz (cl f axes) (cl f2 axes2) B → ∀ O, IsOrder sz.length O → (Kp sz (cl f axes) (cl f2 axes2) O ↔ ∀ pr ∈ B, right O pr) := fun B hB O hO => keeps_iff hO hB
    have s02 := s1.trans s2
    refine ⟨_, rfl, a, _, rfl, .inl (SqL.of (s2 _ _ ea)), ?_⟩
    rw [len_natL]
    refine ⟨sz.length, rfl, hz3, fun H3 lo os s3 eo hOs hos => ?_⟩
    have hol : os.length = (allO sz.length sz.length).length := by rw [← hos, List.length_map]
    refine ⟨lo, rfl, ⟨_, SqL.of eo⟩, for_list (K := K) (a := lo) (xs := refL os) (fun i σ H4 => ∃ (can : Bool) (v7 : Option V), σ = [some (.ref l), some (.ref a), some (.ref v1), some (.ref v2), some (.ref w1), some (.ref w2), some (.bl can), v7] ∧ Same H3 H4 ∧
        (can = true ↔ ∃ O ∈ (allO sz.length sz.length).take i, Kp sz (cl f axes) (cl f2 axes2) O))
      ⟨false, none, rfl, Same.refl _, by simp⟩ (fun i σ H4 _ ⟨_, _, _, s4, _⟩ => SqL.of (s4 _ _ eo)) ?_ ?_⟩
    · rintro i y σ H4 hi ⟨can, v7, rfl, s4, hc⟩
      obtain ⟨o, O, eO1, rfl, eO⟩ := refL_get hi
      rw [hos] at eO
      have hpre := mem_allO.mp (List.mem_of_getElem? eO)
      refine ⟨_, rfl, can, rfl, ?_⟩
      cases can with
      | true =>
        refine iteT ⟨true, _, rfl, s4, ?_⟩
        obtain ⟨O', h1, h2⟩ := hc.mp rfl
        refine ⟨fun _ => ⟨O', ?_, h2⟩, fun _ => rfl⟩
        rw [take_snoc eO]
        exact List.mem_append_left _ h1
      | false =>
        have s24 := s3.trans s4
        refine iteF ⟨_, rfl, _, rfl, _, rfl, _, rfl, a, o, w1, w2, sz, O, f, f2, axes, axes2, rfl, SqL.of (s24 _ _ (s2 _ _ ea)), hz, (hOs _ (List.mem_of_getElem? eO1)).same s4, hpre.order, s24 _ _ e1, s24 _ _ e2, x1, x2, ho, fun H5 b s5 hb => ⟨b, _, rfl, s4.trans s5, ?_⟩⟩
        rw [hb, take_snoc eO]
        constructor
        · intro h
          exact ⟨O, List.mem_append_right _ (List.mem_singleton_self _), h⟩
        · rintro ⟨O', h1, h2⟩
          rcases List.mem_append.mp h1 with h1 | h1
          · have := hc.mpr ⟨O', h1, h2⟩
            cases this
          · rw [List.mem_singleton.mp h1] at h2; exact h2
    · rintro σ H4 ⟨can, v7, rfl, s4, hc⟩
      rw [len_refL, hol, List.take_length] at hc
      have hcan : ∀ B, IsB sz (cl f axes) (cl f2 axes2) B → (can = true ↔ ∃ O, IsOrder sz.length O ∧ ∀ pr ∈ B, right O pr) := fun B hB => by
        rw [hc]
        constructor
        · rintro ⟨O, h1, h2⟩
          have hO := (mem_allO.mp h1).order
          exact ⟨O, hO, (hwo B hB O hO).mp h2⟩
        · rintro ⟨O, hO, h2⟩
          exact ⟨O, mem_allO.mpr hO.pre, (hwo B hB O hO).mpr h2⟩
      have s24 := s3.trans s4
      have U1 := V1.same s24
      have U2 := V2.same s24
      have kz1 : (keptF axes).map (·.1) = sz := by rw [sizes_kept, x1]
      have kz2 : (keptF axes2).map (·.1) = sz := by rw [sizes_kept, x2]
      have kl : (keptF axes).length = sz.length := by rw [← kz1, List.length_map]
      refine ⟨_, rfl, _, rfl, _, rfl, v1, v2, can, r, f, f2, keptF axes, keptF axes2, rfl, U1, U2, by rw [kz1, kz2], once_by (b := 1) (m := 0) (by omega) (by rw [kz1, x1]) (fun p hp => kept_cl hp) ho, ?_, fun H5 s5 => ⟨true, rfl, iteT ?_⟩⟩
      · rw [kz1, kl]
        intro B hB
        exact hcan B (hB.back (b := 1) (m := 0) (by omega) (fun p hp => kept_cl (by rw [x1]; exact hp)) fun p hp => kept_cl (by rw [x2]; exact hp))
      · have lo1' : lowF (keptF axes) = lowF axes := by unfold lowF; rw [lowL_kept]
        have lo2' : lowF (keptF axes2) = lowF axes2 := by unfold lowF; rw [lowL_kept]
        have hi1' : highF (keptF axes) = highF axes := by unfold highF; rw [highL_kept]
        have hi2' : highF (keptF axes2) = highF axes2 := by unfold highF; rw [highL_kept]
        have s05 := (s02.trans s24).trans s5
        have bp := byF_pos ns
        refine ⟨_, rfl, _, rfl, l, v1, ns, r, f, keptF axes, rfl, s05.seq hS, hns, U1.same s5, by rw [lo1']; exact g1.lo, by rw [hi1']; exact g1.hi, r1, r2, fun H6 y1 s6 W1 => ?_⟩
        refine ⟨_, rfl, _, rfl, l, v2, ns, r, f2, keptF axes2, rfl, (s05.trans s6).seq hS, hns, (U2.same s5).same s6, by rw [lo2']; exact g2.lo, by rw [hi2']; exact g2.hi, r1, r2, fun H7 y2 s7 W2 => ?_⟩
        have fz1 : (keptF (farF (byF ns) (keptF axes))).map (·.1) = sz := by rw [sizes_kept, sizes_far, kz1]
        have fz2 : (keptF (farF (byF ns) (keptF axes2))).map (·.1) = sz := by rw [sizes_kept, sizes_far, kz2]
        have fl : (keptF (farF (byF ns) (keptF axes))).length = sz.length := by rw [← fz1, List.length_map]
        refine ⟨_, rfl, y1, y2, can, _, _, _, _, _, rfl, W1.same s7, W2, by rw [fz1, fz2], once_by (b := byF ns) (m := moreF ns) (by omega) (by rw [fz1, x1]) (fun p hp => far_cl hp) ho, ?_, fun H8 s8 => q H8⟩
        rw [fz1, fl]
        intro B hB
        exact hcan B (hB.back (b := byF ns) (m := moreF ns) (by omega) (fun p hp => far_cl (by rw [x1]; exact hp)) fun p hp => far_cl (by rw [x2]; exact hp))
end
end PH

/-! What the top has written, gathered; the law's own head. Printed by end.py. -/
namespace PH
open PySem PySem.Spec PyProof.Rows L2
/-- the def called x stands behind the top -/
structure GD (K : PySem.W.Frag) (x : Str) (st : Stmt) : Prop where
  ex : ∃ (f : Addr) (fd : FuncData), PySem.W.nsIn K mainGlobals x = some (some (.ref f)) ∧ PySem.W.keepIn K (.ref f) = true ∧ Fun K x x st f fd
theorem gd_mk {K : PySem.W.Frag} {x : Str} {st : Stmt} {f : Addr} {oc : Value} {od an : Option Addr} {osl : Array (Option Value)} {kV doc pm cdv ct : Value} (a : PySem.W.nsIn K mainGlobals x = some (some (.ref f))) (l : K.lookup f = some ⟨oc, od, .func (PySem.W.fnOf x x (defArgs st) (defBody st) (defScope st) .none kV doc pm an cdv ct), osl⟩)
    (c : PySem.W.codeIn K cdv x = true) (k : PySem.W.keepIn K (.ref f) = true) : GD K x st := ⟨f, _, a, k, fun_mk l c k⟩
/-- the method m of the class at C stands behind the top -/
structure MD (K : PySem.W.Frag) (C : Addr) (m qual : Str) (st : Stmt) : Prop where
  ex : ∃ (f : Addr) (fd : FuncData), Meth K C m f ∧ Fun K m qual st f fd
theorem md_mk {K : PySem.W.Frag} {C : Addr} {m qual : Str} {st : Stmt} {f : Addr} {oc : Value} {od an : Option Addr} {osl : Array (Option Value)} {kV doc pm cdv ct : Value} (a : PySem.W.findIn K (.ref C) m = some (some (.ref f))) (i : PySem.W.isFn K (.ref f) = true)
    (l : K.lookup f = some ⟨oc, od, .func (PySem.W.fnOf m qual (defArgs st) (defBody st) (defScope st) .none kV doc pm an cdv ct), osl⟩) (c : PySem.W.codeIn K cdv qual = true) (k : PySem.W.keepIn K (.ref f) = true) : MD K C m qual st := ⟨f, _, ⟨a, i, k⟩, fun_mk l c k⟩
theorem cal_of {P : Program} {w : World} {K : PySem.W.Frag} {mg : Str → Option Value} {base : Heap} {x : Str} {st : Stmt} {k : Nat} {ps : List Str} {sp : Sp} {h : Heap} (X : K.In h) (G : h.Ns mainGlobals mg) (g : GD K x st)
    (b : ∀ (kV doc pm : Value) (an : Option Addr) (cdv ct : Value) (us : List Value), us.length = ps.length → bindArgs (PySem.W.fnOf x x (defArgs st) (defBody st) (defScope st) .none kV doc pm an cdv ct) ⟨us, []⟩ = pure (ps.zip us))
    (ok : ∀ (f : Addr) (fd : FuncData), Fun K x x st f fd → FnOk P w K mg base CX0 k f fd ps sp) : Cal P w K mg base x k ps sp := by
  obtain ⟨f, fd, a, kp, F⟩ := g.ex
  exact ⟨f, fd, PySem.W.mg_of X G a, kp, F.binds b, ok f fd F⟩
theorem calM_of {P : Program} {w : World} {K : PySem.W.Frag} {mg : Str → Option Value} {base : Heap} {C : Addr} {m qual : Str} {st : Stmt} {k : Nat} {ps : List Str} {sp : Sp} (cl : Cls K C) (g : MD K C m qual st)
    (b : ∀ (kV doc pm : Value) (an : Option Addr) (cdv ct : Value) (us : List Value), us.length = ps.length → bindArgs (PySem.W.fnOf m qual (defArgs st) (defBody st) (defScope st) .none kV doc pm an cdv ct) ⟨us, []⟩ = pure (ps.zip us))
    (ok : ∀ (f : Addr) (fd : FuncData), Fun K m qual st f fd → FnOk P w K mg base CX0 k f fd ps sp) : CalM P w K mg base C m k ps sp := by
  obtain ⟨f, fd, M, F⟩ := g.ex
  exact ⟨cl, f, fd, M, F.binds b, ok f fd F⟩
theorem calC_of {P : Program} {w : World} {K : PySem.W.Frag} {mg : Str → Option Value} {base : Heap} {x : Str} {C : Addr} {qual : Str} {st : Stmt} {k : Nat} {ps : List Str} {sp : Sp} (hC : mg x = some (.ref C)) (mk : PySem.W.makesIn K C = true) (kc : PySem.W.keepIn K (.ref C) = true) (g : MD K C "__init__" qual st)
    (b : ∀ (kV doc pm : Value) (an : Option Addr) (cdv ct : Value) (us : List Value), us.length = ps.length → bindArgs (PySem.W.fnOf "__init__" qual (defArgs st) (defBody st) (defScope st) .none kV doc pm an cdv ct) ⟨us, []⟩ = pure (ps.zip us))
    (ok : ∀ (f : Addr) (fd : FuncData), Fun K "__init__" qual st f fd → FnOk P w K mg base CX0 k f fd ps sp) : CalC P w K mg base x C k ps sp := by
  obtain ⟨f, fd, M, F⟩ := g.ex
  exact ⟨f, fd, hC, ⟨mk, M.at_, M.fn, kc⟩, F.binds b, ok f fd F⟩
theorem cst_k {K : PySem.W.Frag} {mg : Str → Option Value} {h : Heap} {x : Str} {n : Int} {t : Tok} (X : K.In h) (G : h.Ns mainGlobals mg) (a : PySem.W.nsIn K mainGlobals x = some (some (.int n t))) : Cst mg x (.int n) := ⟨_, PySem.W.mg_of X G a, t, rfl⟩
/-- a name that the walk holds as loose: its literal -/
theorem cst_x {mg : Str → Option Value} {h : Heap} {x : Str} {n : Int} (e : ∃ v, mg x = some v ∧ PySem.W.ReadsLit h v (.int n) []) : Cst mg x (.int n) := by
  obtain ⟨v, e, r⟩ := e
  cases r
  exact ⟨_, e, _, rfl⟩
theorem all_mk {l : PySem.W.OpenLaw} {w : World} {K : PySem.W.Frag} {h : Heap} {mg : Str → Option Value} {fa C : Addr} (X : K.In h) (G : h.Ns mainGlobals mg) (hfa : mg "law" = some (.ref fa)) (aC : PySem.W.nsIn K mainGlobals "View" = some (some (.ref C)))
    (pg : PySem.W.plainGet K C Str.empty = true) (hd : PySem.W.hasDictIn K C = true) (po : PySem.W.plainOver K C = true) (sa : PySem.W.findIn K (.ref C) "__setattr__" = some (some (.builtin "object.__setattr__"))) (mk : PySem.W.makesIn K C = true) (kc : PySem.W.keepIn K (.ref C) = true)
    (nR : PySem.W.findIn K (.ref C) "room" = some none) (nF : PySem.W.findIn K (.ref C) "first" = some none) (nA : PySem.W.findIn K (.ref C) "axes" = some none)
    (g_is_whole : GD K "is_whole" s_is_whole)
    (g_count_of : GD K "count_of" s_count_of)
    (g_paces_of : GD K "paces_of" s_paces_of)
    (g_need_place : GD K "need_place" s_need_place)
    (g_number_of : GD K "number_of" s_number_of)
    (g_places : GD K "places" s_places)
    (g_is_axis : GD K "is_axis" s_is_axis)
    (g_kept_axes : GD K "kept_axes" s_kept_axes)
    (g_need_few : GD K "need_few" s_need_few)
    (g_need_alike : GD K "need_alike" s_need_alike)
    (g_has_twice : GD K "has_twice" s_has_twice)
    (g_need_once : GD K "need_once" s_need_once)
    (g_pairs_between : GD K "pairs_between" s_pairs_between)
    (g_bound_pairs : GD K "bound_pairs" s_bound_pairs)
    (g_gaps : GD K "gaps" s_gaps)
    (g_way_along : GD K "way_along" s_way_along)
    (g_barring : GD K "barring" s_barring)
    (g_loop_order : GD K "loop_order" s_loop_order)
    (g_is_bound : GD K "is_bound" s_is_bound)
    (g_bars : GD K "bars" s_bars)
    (g_l_draw : GD K "_law_draw" s_l_draw)
    (g_l_digits : GD K "_law_digits" s_l_digits)
    (g_l_sizes : GD K "_law_sizes" s_l_sizes)
    (g_l_once : GD K "_law_once" s_l_once)
    (g_l_others : GD K "_law_others" s_l_others)
    (g_l_least : GD K "_law_least" s_l_least)
    (g_l_most : GD K "_law_most" s_l_most)
    (g_l_cells : GD K "_law_cells" s_l_cells)
    (g_l_two : GD K "_law_two" s_l_two)
    (g_l_far : GD K "_law_far" s_l_far)
    (g_l_walk : GD K "_law_walk" s_l_walk)
    (g_l_number : GD K "_law_number" s_l_number)
    (g_l_keeps : GD K "_law_keeps" s_l_keeps)
    (g_l_all_orders : GD K "_law_all_orders" s_l_all_orders)
    (g_l_right : GD K "_law_right" s_l_right)
    (g_law : GD K "law" s_law)
    (g_v_sizes : MD K C "sizes" "View.sizes" s_v_sizes)
    (g_v_paces : MD K C "paces" "View.paces" s_v_paces)
    (g_v_count : MD K C "count" "View.count" s_v_count)
    (g_v_cell : MD K C "cell" "View.cell" s_v_cell)
    (g_v_least : MD K C "least" "View.least" s_v_least)
    (g_v_greatest : MD K C "greatest" "View.greatest" s_v_greatest)
    (g_v_cells : MD K C "cells" "View.cells" s_v_cells)
    (g_v_init : MD K C "__init__" "View.__init__" s_v_init)
    (z_isinstance : PySem.W.nsIn K mainGlobals "isinstance" = some none)
    (z_len : PySem.W.nsIn K mainGlobals "len" = some none)
    (z_reversed : PySem.W.nsIn K mainGlobals "reversed" = some none)
    (z_zip : PySem.W.nsIn K mainGlobals "zip" = some none)
    (z_range : PySem.W.nsIn K mainGlobals "range" = some none)
    (z_sum : PySem.W.nsIn K mainGlobals "sum" = some none)
    (z_min : PySem.W.nsIn K mainGlobals "min" = some none)
    (z_max : PySem.W.nsIn K mainGlobals "max" = some none)
    (z_tuple : PySem.W.nsIn K mainGlobals "tuple" = some none)
    (z_list : PySem.W.nsIn K mainGlobals "list" = some none)
    (z_enumerate : PySem.W.nsIn K mainGlobals "enumerate" = some none)
    (z_int : PySem.W.nsIn K mainGlobals "int" = some none)
    (z_bool : PySem.W.nsIn K mainGlobals "bool" = some none)
    (cPl : Cst mg "MOST_places" (.int 4096))
    (cVi : Cst mg "MOST_views" (.int 4096))
    (cAx : Cst mg "MOST_AXES" (.int 8))
    (cLo : Cst mg "MOST_loops" (.int 4096))
    (cFl : Cst mg "MOST_floors" (.int 4096))
    (cRo : Cst mg "MOST_ROOM" (.int 1000000000000000000))
    (cSi : Cst mg "MOST_SIZE" (.int 1000000000)) :
    ∃ fd : FuncData, (∀ (s : Shared) (v : Value), BindsTo s fd ⟨[v], []⟩ [("_law_script", v)]) ∧ ∀ base : Heap, K.In base → base.Ns mainGlobals mg → FnOk l.prog w K mg base CX0 9 fa fd ["_law_script"] (spLaw K) := by
  obtain ⟨f, fd, a, kp, F⟩ := g_law.ex
  have e := hfa.symm.trans (PySem.W.mg_of X G a)
  cases e
  have cRo' : Cst mg "MOST_ROOM" (.int (10 ^ 18)) := by
    rw [show (10 : Int) ^ 18 = 1000000000000000000 from by decide]
    exact cRo
  have cSi' : Cst mg "MOST_SIZE" (.int (10 ^ 9)) := by
    rw [show (10 : Int) ^ 9 = 1000000000 from by decide]
    exact cSi
  have cl : Cls K C := ⟨pg, hd, po, sa⟩
  have T : Txt K mg C := ⟨PySem.W.mg_none_of X G z_isinstance, PySem.W.mg_none_of X G z_len, PySem.W.mg_none_of X G z_reversed, PySem.W.mg_none_of X G z_zip, PySem.W.mg_none_of X G z_range, PySem.W.mg_none_of X G z_sum, PySem.W.mg_none_of X G z_min, PySem.W.mg_none_of X G z_max, PySem.W.mg_none_of X G z_tuple, PySem.W.mg_none_of X G z_list, PySem.W.mg_none_of X G z_enumerate, PySem.W.mg_none_of X G z_int, PySem.W.mg_none_of X G z_bool, cPl, cVi, cRo', cAx, cSi', cLo, cFl, cl, nR, nF, nA⟩
  have hC := PySem.W.mg_of X G aC
  refine ⟨fd, ?_, fun base _ _ => ?_⟩
  · obtain ⟨⟨oc, od, kV, doc, pm, an, cdv, ct, osl, rfl, _, _⟩, _⟩ := F
    exact fun s v => .of_eq rfl
  have G_is_whole : Cal l.prog w K mg base "is_whole" 1 ["thing"] spWhole := cal_of X G g_is_whole (fun _ _ _ _ _ _ us hl => match us, hl with | [_], _ => rfl) (fun f fd F => ok_is_whole F T )
  have G_count_of : Cal l.prog w K mg base "count_of" 1 ["sizes"] (spCount K) := cal_of X G g_count_of (fun _ _ _ _ _ _ us hl => match us, hl with | [_], _ => rfl) (fun f fd F => ok_count_of F T )
  have G_paces_of : Cal l.prog w K mg base "paces_of" 1 ["sizes"] (spPaces K) := cal_of X G g_paces_of (fun _ _ _ _ _ _ us hl => match us, hl with | [_], _ => rfl) (fun f fd F => ok_paces_of F T )
  have G_need_place : Cal l.prog w K mg base "need_place" 2 ["sizes", "place"] (spNeedPlace K) := cal_of X G g_need_place (fun _ _ _ _ _ _ us hl => match us, hl with | [_, _], _ => rfl) (fun f fd F => ok_need_place F T G_is_whole)
  have G_number_of : Cal l.prog w K mg base "number_of" 3 ["sizes", "place"] (spNumber K) := cal_of X G g_number_of (fun _ _ _ _ _ _ us hl => match us, hl with | [_, _], _ => rfl) (fun f fd F => ok_number_of F T G_need_place G_paces_of)
  have G_places : Cal l.prog w K mg base "places" 2 ["sizes"] (spPlaces K) := cal_of X G g_places (fun _ _ _ _ _ _ us hl => match us, hl with | [_], _ => rfl) (fun f fd F => ok_places F T G_count_of)
  have G_is_axis : Cal l.prog w K mg base "is_axis" 2 ["thing"] spIsAxis := cal_of X G g_is_axis (fun _ _ _ _ _ _ us hl => match us, hl with | [_], _ => rfl) (fun f fd F => ok_is_axis F T G_is_whole)
  have G_kept_axes : Cal l.prog w K mg base "kept_axes" 3 ["axes"] spKept := cal_of X G g_kept_axes (fun _ _ _ _ _ _ us hl => match us, hl with | [_], _ => rfl) (fun f fd F => ok_kept_axes F T G_is_axis)
  have M_v_sizes : CalM l.prog w K mg base C "sizes" 1 ["self"] (spSizes C) := calM_of cl g_v_sizes (fun _ _ _ _ _ _ us hl => match us, hl with | [_], _ => rfl) (fun f fd F => ok_v_sizes F T )
  have M_v_paces : CalM l.prog w K mg base C "paces" 1 ["self"] (spPacesM C) := calM_of cl g_v_paces (fun _ _ _ _ _ _ us hl => match us, hl with | [_], _ => rfl) (fun f fd F => ok_v_paces F T )
  have M_v_count : CalM l.prog w K mg base C "count" 2 ["self"] (spCountM C) := calM_of cl g_v_count (fun _ _ _ _ _ _ us hl => match us, hl with | [_], _ => rfl) (fun f fd F => ok_v_count F T G_count_of M_v_sizes)
  have M_v_cell : CalM l.prog w K mg base C "cell" 4 ["self", "place"] (spCell C) := calM_of cl g_v_cell (fun _ _ _ _ _ _ us hl => match us, hl with | [_, _], _ => rfl) (fun f fd F => ok_v_cell F T G_number_of M_v_sizes M_v_paces)
  have M_v_least : CalM l.prog w K mg base C "least" 1 ["self"] (spLeast C) := calM_of cl g_v_least (fun _ _ _ _ _ _ us hl => match us, hl with | [_], _ => rfl) (fun f fd F => ok_v_least F T )
  have M_v_greatest : CalM l.prog w K mg base C "greatest" 1 ["self"] (spGreatest C) := calM_of cl g_v_greatest (fun _ _ _ _ _ _ us hl => match us, hl with | [_], _ => rfl) (fun f fd F => ok_v_greatest F T )
  have M_v_cells : CalM l.prog w K mg base C "cells" 3 ["self"] (spCells C) := calM_of cl g_v_cells (fun _ _ _ _ _ _ us hl => match us, hl with | [_], _ => rfl) (fun f fd F => ok_v_cells F T M_v_count)
  have G_View : CalC l.prog w K mg base "View" C 4 ["self", "room", "first", "axes"] (spInit C) := calC_of hC mk kc g_v_init (fun _ _ _ _ _ _ us hl => match us, hl with | [_, _, _, _], _ => rfl) (fun f fd F => ok_v_init F T G_is_whole G_kept_axes M_v_least M_v_greatest)
  have G_need_few : Cal l.prog w K mg base "need_few" 2 ["sizes"] (spFew K) := cal_of X G g_need_few (fun _ _ _ _ _ _ us hl => match us, hl with | [_], _ => rfl) (fun f fd F => ok_need_few F T G_count_of)
  have G_need_alike : Cal l.prog w K mg base "need_alike" 2 ["to", "source"] (spAlike C) := cal_of X G g_need_alike (fun _ _ _ _ _ _ us hl => match us, hl with | [_, _], _ => rfl) (fun f fd F => ok_need_alike F T M_v_sizes)
  have G_has_twice : Cal l.prog w K mg base "has_twice" 4 ["view"] (spTwice C) := cal_of X G g_has_twice (fun _ _ _ _ _ _ us hl => match us, hl with | [_], _ => rfl) (fun f fd F => ok_has_twice F T M_v_count M_v_cells)
  have G_need_once : Cal l.prog w K mg base "need_once" 5 ["to"] (spTwice C) := cal_of X G g_need_once (fun _ _ _ _ _ _ us hl => match us, hl with | [_], _ => rfl) (fun f fd F => ok_need_once F T G_has_twice)
  have G_pairs_between : Cal l.prog w K mg base "pairs_between" 5 ["to", "source"] (spPairs C) := cal_of X G g_pairs_between (fun _ _ _ _ _ _ us hl => match us, hl with | [_, _], _ => rfl) (fun f fd F => ok_pairs_between F T G_places M_v_sizes M_v_cell)
  have G_bound_pairs : Cal l.prog w K mg base "bound_pairs" 6 ["to", "source"] (spPairs C) := cal_of X G g_bound_pairs (fun _ _ _ _ _ _ us hl => match us, hl with | [_, _], _ => rfl) (fun f fd F => ok_bound_pairs F T G_need_alike G_need_few G_need_once G_pairs_between M_v_sizes)
  have G_gaps : Cal l.prog w K mg base "gaps" 1 ["some", "axis"] spGaps := cal_of X G g_gaps (fun _ _ _ _ _ _ us hl => match us, hl with | [_, _], _ => rfl) (fun f fd F => ok_gaps F T )
  have G_way_along : Cal l.prog w K mg base "way_along" 2 ["some", "axis"] spWay := cal_of X G g_way_along (fun _ _ _ _ _ _ us hl => match us, hl with | [_, _], _ => rfl) (fun f fd F => ok_way_along F T G_gaps)
  have G_barring : Cal l.prog w K mg base "barring" 2 ["some", "axes"] spBarring := cal_of X G g_barring (fun _ _ _ _ _ _ us hl => match us, hl with | [_, _], _ => rfl) (fun f fd F => ok_barring F T G_gaps)
  have G_loop_order : Cal l.prog w K mg base "loop_order" 7 ["to", "source"] (spLoop C) := cal_of X G g_loop_order (fun _ _ _ _ _ _ us hl => match us, hl with | [_, _], _ => rfl) (fun f fd F => ok_loop_order F T G_bound_pairs M_v_sizes G_way_along G_barring)
  have G_is_bound : Cal l.prog w K mg base "is_bound" 4 ["sizes", "known", "thing"] (spIsBound l.prog w K) := cal_of X G g_is_bound (fun _ _ _ _ _ _ us hl => match us, hl with | [_, _, _], _ => rfl) (fun f fd F => ok_is_bound F T G_number_of)
  have G_bars : Cal l.prog w K mg base "bars" 7 ["to", "source", "some"] (spBars C) := cal_of X G g_bars (fun _ _ _ _ _ _ us hl => match us, hl with | [_, _, _], _ => rfl) (fun f fd F => ok_bars F T G_bound_pairs M_v_sizes G_is_bound G_gaps)
  have G_l_draw : Cal l.prog w K mg base "_law_draw" 1 ["_law_script", "_law_k", "_law_many"] (spDraw K) := cal_of X G g_l_draw (fun _ _ _ _ _ _ us hl => match us, hl with | [_, _, _], _ => rfl) (fun f fd F => ok_l_draw F T )
  have G_l_digits : Cal l.prog w K mg base "_law_digits" 1 ["_law_number_here", "_law_by", "_law_many"] spDigits := cal_of X G g_l_digits (fun _ _ _ _ _ _ us hl => match us, hl with | [_, _, _], _ => rfl) (fun f fd F => ok_l_digits F T )
  have G_l_sizes : Cal l.prog w K mg base "_law_sizes" 2 ["_law_script", "_law_most_here", "_law_wide"] (spLSizes K) := cal_of X G g_l_sizes (fun _ _ _ _ _ _ us hl => match us, hl with | [_, _, _], _ => rfl) (fun f fd F => ok_l_sizes F T G_l_draw G_l_digits)
  have G_l_once : Cal l.prog w K mg base "_law_once" 2 ["_law_script", "_law_sizes_here"] (spOnce K) := cal_of X G g_l_once (fun _ _ _ _ _ _ us hl => match us, hl with | [_, _], _ => rfl) (fun f fd F => ok_l_once F T G_l_draw G_l_digits)
  have G_l_others : Cal l.prog w K mg base "_law_others" 2 ["_law_script", "_law_paces"] (spOthers K) := cal_of X G g_l_others (fun _ _ _ _ _ _ us hl => match us, hl with | [_, _], _ => rfl) (fun f fd F => ok_l_others F T G_l_draw G_l_digits)
  have G_l_least : Cal l.prog w K mg base "_law_least" 1 ["_law_sizes_here", "_law_paces"] (spLLow K) := cal_of X G g_l_least (fun _ _ _ _ _ _ us hl => match us, hl with | [_, _], _ => rfl) (fun f fd F => ok_l_least F T )
  have G_l_most : Cal l.prog w K mg base "_law_most" 1 ["_law_sizes_here", "_law_paces"] (spLHigh K) := cal_of X G g_l_most (fun _ _ _ _ _ _ us hl => match us, hl with | [_, _], _ => rfl) (fun f fd F => ok_l_most F T )
  have G_l_cells : Cal l.prog w K mg base "_law_cells" 1 ["_law_first", "_law_sizes_here", "_law_paces"] (spLCells K) := cal_of X G g_l_cells (fun _ _ _ _ _ _ us hl => match us, hl with | [_, _, _], _ => rfl) (fun f fd F => ok_l_cells F T )
  have G_l_two : Cal l.prog w K mg base "_law_two" 6 ["_law_script", "_law_sizes_here"] (spTwo K C) := cal_of X G g_l_two (fun _ _ _ _ _ _ us hl => match us, hl with | [_, _], _ => rfl) (fun f fd F => ok_l_two F T G_l_draw G_l_once G_l_others G_l_least G_l_most G_l_cells G_View)
  have G_l_far : Cal l.prog w K mg base "_law_far" 6 ["_law_script", "_law_view"] (spFar K C) := cal_of X G g_l_far (fun _ _ _ _ _ _ us hl => match us, hl with | [_, _], _ => rfl) (fun f fd F => ok_l_far F T G_l_draw G_View)
  have G_l_walk : Cal l.prog w K mg base "_law_walk" 1 ["_law_sizes_here", "_law_order"] (spWalk K) := cal_of X G g_l_walk (fun _ _ _ _ _ _ us hl => match us, hl with | [_, _], _ => rfl) (fun f fd F => ok_l_walk F T )
  have G_l_number : Cal l.prog w K mg base "_law_number" 1 ["_law_sizes_here", "_law_place"] (spLNum K) := cal_of X G g_l_number (fun _ _ _ _ _ _ us hl => match us, hl with | [_, _], _ => rfl) (fun f fd F => ok_l_number F T )
  have G_l_keeps : Cal l.prog w K mg base "_law_keeps" 2 ["_law_sizes_here", "_law_order", "_law_writes", "_law_reads"] (spKeeps K) := cal_of X G g_l_keeps (fun _ _ _ _ _ _ us hl => match us, hl with | [_, _, _, _], _ => rfl) (fun f fd F => ok_l_keeps F T G_l_walk G_l_number)
  have G_l_all_orders : Cal l.prog w K mg base "_law_all_orders" 1 ["_law_axes"] spAll := cal_of X G g_l_all_orders (fun _ _ _ _ _ _ us hl => match us, hl with | [_], _ => rfl) (fun f fd F => ok_l_all_orders F T )
  have G_l_right : Cal l.prog w K mg base "_law_right" 8 ["_law_one", "_law_other", "_law_can"] (spRight C) := cal_of X G g_l_right (fun _ _ _ _ _ _ us hl => match us, hl with | [_, _, _], _ => rfl) (fun f fd F => ok_l_right F T G_loop_order G_bars)
  exact ok_law F T G_l_sizes G_l_two G_l_all_orders G_l_keeps G_l_right G_l_far
theorem walkX {l : PySem.W.OpenLaw} {q : Program} {loose : List Str} {XP : (Str → Option Value) → Heap → Prop} {YP : World → Heap → Prop} {d : DefRec} {K : Params → PySem.W.Frag} (hn : l.most = some 63) (hdf : d.params.defaults = [])
    (hY : ∀ (w : World) (h : Heap), YP w h → (K w.params).In h)
    (F : ∀ (w : World) (mg : Str → Option Value) (fa : Addr) (h : Heap), (K w.params).In h → h.Ns mainGlobals mg → XP mg h → mg d.name = some (.ref fa) →
      ∃ fd : FuncData, (∀ (s : Shared) (u : Value), BindsTo s fd ⟨[u], []⟩ [("_law_script", u)]) ∧ ∀ base : Heap, (K w.params).In base → base.Ns mainGlobals mg → FnOk l.prog w (K w.params) mg base CX0 9 fa fd ["_law_script"] (spLaw (K w.params))) :
    PySem.W.WalkO q loose XP YP l.row.toRowW d [] (fun f vs => PySem.call f vs) := by
  refine Att.attach_call hn hdf fun w s₀ s₁ mg mb fa o pm cd doc a vs ns G Y ho hd hcd hmg hobj hints hlen hg => ?_
  have KX := hY w _ Y
  obtain ⟨fd, hb, hF⟩ := F w mg fa _ KX G.T.g G.X hmg
  exact law_call KX G.T.g G.T.b G.T.builtins G.T.nolimit hg hobj hints (Nat.le_trans hlen (by decide)) ⟨rfl, by decide, by decide⟩ hF hb (fun H hO hS => ⟨a, ns, rfl, hS, hlen, fun _ => rfl⟩) fun H e s' z => z
end PH

set_option maxHeartbeats 200000
open PySem PySem.W PyProof.Rows
set_option maxRecDepth 100000 in
set_option maxHeartbeats 0 in
theorem PySem.Challenge.cw_pacehall_k76_whole_none_of_all_orders_holds : PySem.Challenge.rw_pacehall_k76_whole_none_of_all_orders.Holds := by
  w_on; o_law; k_head; (case hw => w_witness2)
  k_fill
  refine PH.walkX (l := PySem.Challenge.rw_pacehall_k76_whole_none_of_all_orders) rfl rfl (fun w h Y => PySem.W.kIn_of Y) ?F
  case F =>
    intro w mg fa h KX G X hmg
    have cRo : PH.Cst mg "MOST_ROOM" (.int 1000000000000000000) := PH.cst_x (X.2.val ("MOST_ROOM", .int 1000000000000000000) (List.Mem.head _))
    have cSi : PH.Cst mg "MOST_SIZE" (.int 1000000000) := PH.cst_x (X.2.val ("MOST_SIZE", .int 1000000000) (List.Mem.tail _ (List.Mem.head _)))
    refine' PH.all_mk KX G hmg ?aC ?pg ?hd ?po ?sa ?mk ?kc ?nR ?nF ?nA ?g_is_whole ?g_count_of ?g_paces_of ?g_need_place ?g_number_of ?g_places ?g_is_axis ?g_kept_axes ?g_need_few ?g_need_alike ?g_has_twice ?g_need_once ?g_pairs_between ?g_bound_pairs ?g_gaps ?g_way_along ?g_barring ?g_loop_order ?g_is_bound ?g_bars ?g_l_draw ?g_l_digits ?g_l_sizes ?g_l_once ?g_l_others ?g_l_least ?g_l_most ?g_l_cells ?g_l_two ?g_l_far ?g_l_walk ?g_l_number ?g_l_keeps ?g_l_all_orders ?g_l_right ?g_law ?g_v_sizes ?g_v_paces ?g_v_count ?g_v_cell ?g_v_least ?g_v_greatest ?g_v_cells ?g_v_init ?z_isinstance ?z_len ?z_reversed ?z_zip ?z_range ?z_sum ?z_min ?z_max ?z_tuple ?z_list ?z_enumerate ?z_int ?z_bool ?cPl ?cVi ?cAx ?cLo ?cFl cRo cSi
    (case aC => k_is)
    (case pg => k_is)
    (case hd => k_is)
    (case po => k_is)
    (case sa => k_is)
    (case mk => k_is)
    (case kc => k_is)
    (case nR => k_is)
    (case nF => k_is)
    (case nA => k_is)
    (case g_is_whole => refine' PH.gd_mk ?a ?l ?c ?k; (case a => k_is); (case l => k_is); (case c => k_is); (case k => k_is))
    (case g_count_of => refine' PH.gd_mk ?a ?l ?c ?k; (case a => k_is); (case l => k_is); (case c => k_is); (case k => k_is))
    (case g_paces_of => refine' PH.gd_mk ?a ?l ?c ?k; (case a => k_is); (case l => k_is); (case c => k_is); (case k => k_is))
    (case g_need_place => refine' PH.gd_mk ?a ?l ?c ?k; (case a => k_is); (case l => k_is); (case c => k_is); (case k => k_is))
    (case g_number_of => refine' PH.gd_mk ?a ?l ?c ?k; (case a => k_is); (case l => k_is); (case c => k_is); (case k => k_is))
    (case g_places => refine' PH.gd_mk ?a ?l ?c ?k; (case a => k_is); (case l => k_is); (case c => k_is); (case k => k_is))
    (case g_is_axis => refine' PH.gd_mk ?a ?l ?c ?k; (case a => k_is); (case l => k_is); (case c => k_is); (case k => k_is))
    (case g_kept_axes => refine' PH.gd_mk ?a ?l ?c ?k; (case a => k_is); (case l => k_is); (case c => k_is); (case k => k_is))
    (case g_need_few => refine' PH.gd_mk ?a ?l ?c ?k; (case a => k_is); (case l => k_is); (case c => k_is); (case k => k_is))
    (case g_need_alike => refine' PH.gd_mk ?a ?l ?c ?k; (case a => k_is); (case l => k_is); (case c => k_is); (case k => k_is))
    (case g_has_twice => refine' PH.gd_mk ?a ?l ?c ?k; (case a => k_is); (case l => k_is); (case c => k_is); (case k => k_is))
    (case g_need_once => refine' PH.gd_mk ?a ?l ?c ?k; (case a => k_is); (case l => k_is); (case c => k_is); (case k => k_is))
    (case g_pairs_between => refine' PH.gd_mk ?a ?l ?c ?k; (case a => k_is); (case l => k_is); (case c => k_is); (case k => k_is))
    (case g_bound_pairs => refine' PH.gd_mk ?a ?l ?c ?k; (case a => k_is); (case l => k_is); (case c => k_is); (case k => k_is))
    (case g_gaps => refine' PH.gd_mk ?a ?l ?c ?k; (case a => k_is); (case l => k_is); (case c => k_is); (case k => k_is))
    (case g_way_along => refine' PH.gd_mk ?a ?l ?c ?k; (case a => k_is); (case l => k_is); (case c => k_is); (case k => k_is))
    (case g_barring => refine' PH.gd_mk ?a ?l ?c ?k; (case a => k_is); (case l => k_is); (case c => k_is); (case k => k_is))
    (case g_loop_order => refine' PH.gd_mk ?a ?l ?c ?k; (case a => k_is); (case l => k_is); (case c => k_is); (case k => k_is))
    (case g_is_bound => refine' PH.gd_mk ?a ?l ?c ?k; (case a => k_is); (case l => k_is); (case c => k_is); (case k => k_is))
    (case g_bars => refine' PH.gd_mk ?a ?l ?c ?k; (case a => k_is); (case l => k_is); (case c => k_is); (case k => k_is))
    (case g_l_draw => refine' PH.gd_mk ?a ?l ?c ?k; (case a => k_is); (case l => k_is); (case c => k_is); (case k => k_is))
    (case g_l_digits => refine' PH.gd_mk ?a ?l ?c ?k; (case a => k_is); (case l => k_is); (case c => k_is); (case k => k_is))
    (case g_l_sizes => refine' PH.gd_mk ?a ?l ?c ?k; (case a => k_is); (case l => k_is); (case c => k_is); (case k => k_is))
    (case g_l_once => refine' PH.gd_mk ?a ?l ?c ?k; (case a => k_is); (case l => k_is); (case c => k_is); (case k => k_is))
    (case g_l_others => refine' PH.gd_mk ?a ?l ?c ?k; (case a => k_is); (case l => k_is); (case c => k_is); (case k => k_is))
    (case g_l_least => refine' PH.gd_mk ?a ?l ?c ?k; (case a => k_is); (case l => k_is); (case c => k_is); (case k => k_is))
    (case g_l_most => refine' PH.gd_mk ?a ?l ?c ?k; (case a => k_is); (case l => k_is); (case c => k_is); (case k => k_is))
    (case g_l_cells => refine' PH.gd_mk ?a ?l ?c ?k; (case a => k_is); (case l => k_is); (case c => k_is); (case k => k_is))
    (case g_l_two => refine' PH.gd_mk ?a ?l ?c ?k; (case a => k_is); (case l => k_is); (case c => k_is); (case k => k_is))
    (case g_l_far => refine' PH.gd_mk ?a ?l ?c ?k; (case a => k_is); (case l => k_is); (case c => k_is); (case k => k_is))
    (case g_l_walk => refine' PH.gd_mk ?a ?l ?c ?k; (case a => k_is); (case l => k_is); (case c => k_is); (case k => k_is))
    (case g_l_number => refine' PH.gd_mk ?a ?l ?c ?k; (case a => k_is); (case l => k_is); (case c => k_is); (case k => k_is))
    (case g_l_keeps => refine' PH.gd_mk ?a ?l ?c ?k; (case a => k_is); (case l => k_is); (case c => k_is); (case k => k_is))
    (case g_l_all_orders => refine' PH.gd_mk ?a ?l ?c ?k; (case a => k_is); (case l => k_is); (case c => k_is); (case k => k_is))
    (case g_l_right => refine' PH.gd_mk ?a ?l ?c ?k; (case a => k_is); (case l => k_is); (case c => k_is); (case k => k_is))
    (case g_law => refine' PH.gd_mk ?a ?l ?c ?k; (case a => k_is); (case l => k_is); (case c => k_is); (case k => k_is))
    (case g_v_sizes => refine' PH.md_mk ?a ?i ?l ?c ?k; (case a => k_is); (case i => k_is); (case l => k_is); (case c => k_is); (case k => k_is))
    (case g_v_paces => refine' PH.md_mk ?a ?i ?l ?c ?k; (case a => k_is); (case i => k_is); (case l => k_is); (case c => k_is); (case k => k_is))
    (case g_v_count => refine' PH.md_mk ?a ?i ?l ?c ?k; (case a => k_is); (case i => k_is); (case l => k_is); (case c => k_is); (case k => k_is))
    (case g_v_cell => refine' PH.md_mk ?a ?i ?l ?c ?k; (case a => k_is); (case i => k_is); (case l => k_is); (case c => k_is); (case k => k_is))
    (case g_v_least => refine' PH.md_mk ?a ?i ?l ?c ?k; (case a => k_is); (case i => k_is); (case l => k_is); (case c => k_is); (case k => k_is))
    (case g_v_greatest => refine' PH.md_mk ?a ?i ?l ?c ?k; (case a => k_is); (case i => k_is); (case l => k_is); (case c => k_is); (case k => k_is))
    (case g_v_cells => refine' PH.md_mk ?a ?i ?l ?c ?k; (case a => k_is); (case i => k_is); (case l => k_is); (case c => k_is); (case k => k_is))
    (case g_v_init => refine' PH.md_mk ?a ?i ?l ?c ?k; (case a => k_is); (case i => k_is); (case l => k_is); (case c => k_is); (case k => k_is))
    (case z_isinstance => k_is)
    (case z_len => k_is)
    (case z_reversed => k_is)
    (case z_zip => k_is)
    (case z_range => k_is)
    (case z_sum => k_is)
    (case z_min => k_is)
    (case z_max => k_is)
    (case z_tuple => k_is)
    (case z_list => k_is)
    (case z_enumerate => k_is)
    (case z_int => k_is)
    (case z_bool => k_is)
    (case cPl => refine' PH.cst_k KX G ?a; (case a => k_is))
    (case cVi => refine' PH.cst_k KX G ?a; (case a => k_is))
    (case cAx => refine' PH.cst_k KX G ?a; (case a => k_is))
    (case cLo => refine' PH.cst_k KX G ?a; (case a => k_is))
    (case cFl => refine' PH.cst_k KX G ?a; (case a => k_is))

